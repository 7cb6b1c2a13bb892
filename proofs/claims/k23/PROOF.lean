import PyProof.Rows.All
import Wide.All
import OpenK.AllK
import Wide.FinOn
import HandS.ForMost
import HandS.ForExc
import HandS.IsInst
import HandS.TupAny
import HandS.TupMul
import HandS.Zip
import HandS.Wide
import HandS.Flow
import HandS.Evl
import HandS.Style
import HandS.SortKw
import KE.DataMinMax
import HandS.ExcCtx
import HandS.HotCalls
import HandS.ExcIs
import HandS.Text
import HandS.More
import HandS.Deep
import HandS.Defaults
import HandS.WideBits
import HandS.Iter
import HandS.Dict
import PyProof.Rows.SeqMore
import KE.GoesNew
import PyProof.ListRange
import KE.SortData
import HandS.SetFor
import HandS.Strs
import KE.KEqDict
import HandS.IntHex
import HandS.StrMore
import HandS.SetKeys
import HandS.DictComp
import KE.KItemsList
import KE.KTupSum
import PySem.Challenge.RW_keptsounds_k23_whole_steps_again
set_option Elab.async false
set_option linter.all false
set_option maxRecDepth 100000
/-! Kd: data read off the heap, states of slots, evaluation over data. -/
namespace Kd
open PySem L2
open Evl (Ex ex_l ex_t ex_rd fresh_back)

/-! ### data -/
def kD : Key → PyData
  | .inl i => .int i
  | .inr x => .str x
mutual
inductive Dt (K : PySem.W.Frag) (H : Hp) : V → PyData → Prop
  | non : Dt K H .non .none
  | bl (b : Bool) : Dt K H (.bl b) (.bool b)
  | int (i : Int) : Dt K H (.int i) (.int i)
  | str (x : Str) : Dt K H (.str x) (.str x)
  | lst {a : Addr} {xs : List V} {ds : List PyData} : SqL K H a xs → DtA K H xs ds → Dt K H (.ref a) (.list ds)
  | tup {a : Addr} {xs : List V} {ds : List PyData} : SqT K H a xs → DtA K H xs ds → Dt K H (.ref a) (.tuple ds)
  | dct {a : Addr} {o : Obj} {kvs : List (Key × V)} {ds : List (PyData × PyData)} : H a = some (.frz o (.dK kvs)) → DtK K H kvs ds → Dt K H (.ref a) (.dict ds)
inductive DtA (K : PySem.W.Frag) (H : Hp) : List V → List PyData → Prop
  | nil : DtA K H [] []
  | cons {v : V} {vs : List V} {d : PyData} {ds : List PyData} : Dt K H v d → DtA K H vs ds → DtA K H (v :: vs) (d :: ds)
inductive DtK (K : PySem.W.Frag) (H : Hp) : List (Key × V) → List (PyData × PyData) → Prop
  | nil : DtK K H [] []
  | cons {k : Key} {v : V} {vs : List (Key × V)} {d : PyData} {ds : List (PyData × PyData)} : Dt K H v d → DtK K H vs ds → DtK K H ((k, v) :: vs) ((kD k, d) :: ds)
end
section
variable {K : PySem.W.Frag} {H H' : Hp}
mutual
theorem Dt.mono (e : Ex H H') : ∀ (d : PyData) (v : V), Dt K H v d → Dt K H' v d
  | .none, _, h => by cases h; exact .non
  | .bool b, _, h => by cases h; exact .bl b
  | .int i, _, h => by cases h; exact .int i
  | .str x, _, h => by cases h; exact .str x
  | .list ds, _, h => by
    cases h with
    | lst hs ha => exact .lst (ex_l e hs) (DtA.mono e ds _ ha)
  | .tuple ds, _, h => by
    cases h with
    | tup hs ha => exact .tup (ex_t e hs) (DtA.mono e ds _ ha)
  | .dict ds, _, h => by
    cases h with
    | dct hs ha => exact .dct (e _ _ hs) (DtK.mono e ds _ ha)
theorem DtA.mono (e : Ex H H') : ∀ (ds : List PyData) (vs : List V), DtA K H vs ds → DtA K H' vs ds
  | [], _, h => by cases h; exact .nil
  | d :: ds, _, h => by
    cases h with
    | cons h1 h2 => exact .cons (Dt.mono e d _ h1) (DtA.mono e ds _ h2)
theorem DtK.mono (e : Ex H H') : ∀ (ds : List (PyData × PyData)) (vs : List (Key × V)), DtK K H vs ds → DtK K H' vs ds
  | [], _, h => by cases h; exact .nil
  | (_, d) :: ds, _, h => by
    cases h with
    | cons h1 h2 => exact .cons (Dt.mono e d _ h1) (DtK.mono e ds _ h2)
end
theorem Dt.up {v : V} {d : PyData} (h : Dt K H v d) (e : Ex H H') : Dt K H' v d := Dt.mono e d v h
theorem DtA.up {v : List V} {d : List PyData} (h : DtA K H v d) (e : Ex H H') : DtA K H' v d := DtA.mono e d v h
theorem DtA.len : ∀ {vs : List V} {ds : List PyData}, DtA K H vs ds → vs.length = ds.length
  | _, _, .nil => rfl
  | _, _, .cons _ t => congrArg (· + 1) (DtA.len t)
theorem DtA.get : ∀ {vs : List V} {ds : List PyData} {i : Nat} {d : PyData}, DtA K H vs ds → ds[i]? = some d → ∃ v, vs[i]? = some v ∧ Dt K H v d
  | _, _, _, _, .nil, h => by simp at h
  | _, _, 0, _, .cons h1 _, h => by
    simp at h
    subst h
    exact ⟨_, rfl, h1⟩
  | _, _, i + 1, _, .cons _ t, h => by
    obtain ⟨v, h2, h3⟩ := DtA.get (i := i) t (by simpa using h)
    exact ⟨v, by simpa using h2, h3⟩
theorem DtA.getV : ∀ {vs : List V} {ds : List PyData} {i : Nat} {v : V}, DtA K H vs ds → vs[i]? = some v → ∃ d, ds[i]? = some d ∧ Dt K H v d
  | _, _, _, _, .nil, h => by simp at h
  | _, _, 0, _, .cons h1 _, h => by
    simp at h
    subst h
    exact ⟨_, rfl, h1⟩
  | _, _, i + 1, _, .cons _ t, h => by
    obtain ⟨v, h2, h3⟩ := DtA.getV (i := i) t (by simpa using h)
    exact ⟨v, by simpa using h2, h3⟩
theorem DtA.app : ∀ {vs us : List V} {ds es : List PyData}, DtA K H vs ds → DtA K H us es → DtA K H (vs ++ us) (ds ++ es)
  | _, _, _, _, .nil, h => h
  | _, _, _, _, .cons h1 t, h => .cons h1 (DtA.app t h)
theorem DtA.rev {vs : List V} {ds : List PyData} (h : DtA K H vs ds) : DtA K H vs.reverse ds.reverse := by
  induction vs generalizing ds with
  | nil => cases h; exact .nil
  | cons v vs ih =>
    cases h with
    | cons h1 h2 =>
      rw [List.reverse_cons, List.reverse_cons]
      exact (ih h2).app (.cons h1 .nil)
theorem DtA.take {vs : List V} {ds : List PyData} (h : DtA K H vs ds) (n : Nat) : DtA K H (vs.take n) (ds.take n) := by
  induction n generalizing vs ds with
  | zero => exact .nil
  | succ n ih =>
    cases h with
    | nil => exact .nil
    | cons h1 h2 => exact .cons h1 (ih h2)
theorem DtA.drop {vs : List V} {ds : List PyData} (h : DtA K H vs ds) (n : Nat) : DtA K H (vs.drop n) (ds.drop n) := by
  induction n generalizing vs ds with
  | zero => exact h
  | succ n ih =>
    cases h with
    | nil => exact .nil
    | cons h1 h2 => exact ih h2
theorem DtA.set {vs : List V} {ds : List PyData} {v : V} {d : PyData} (h : DtA K H vs ds) (hv : Dt K H v d) (n : Nat) : DtA K H (vs.set n v) (ds.set n d) := by
  induction n generalizing vs ds with
  | zero =>
    cases h with
    | nil => exact .nil
    | cons h1 h2 => exact .cons hv h2
  | succ n ih =>
    cases h with
    | nil => exact .nil
    | cons h1 h2 => exact .cons h1 (ih h2)
theorem DtA.ints : ∀ {vs : List V} {ns : List Int}, DtA K H vs (ns.map PyData.int) → vs = ns.map V.int
  | _, [], h => by cases h; rfl
  | _, n :: ns, h => by
    cases h with
    | cons h1 h2 =>
      cases h1
      rw [DtA.ints h2]
      rfl
theorem DtA.ofInts : ∀ (ns : List Int), DtA K H (ns.map V.int) (ns.map PyData.int)
  | [] => .nil
  | n :: ns => .cons (.int n) (DtA.ofInts ns)
theorem DtA.bools : ∀ {vs : List V} {ns : List Bool}, DtA K H vs (ns.map PyData.bool) → vs = ns.map V.bl
  | _, [], h => by cases h; rfl
  | _, n :: ns, h => by
    cases h with
    | cons h1 h2 =>
      cases h1
      rw [DtA.bools h2]
      rfl
theorem DtA.strs : ∀ {vs : List V} {ns : List Str}, DtA K H vs (ns.map PyData.str) → vs = ns.map V.str
  | _, [], h => by cases h; rfl
  | _, n :: ns, h => by
    cases h with
    | cons h1 h2 =>
      cases h1
      rw [DtA.strs h2]
      rfl
end
/-! ### data without dicts: the library's Dp -/
mutual
def noDict : PyData → Bool
  | .none => true
  | .bool _ => true
  | .int _ => true
  | .str _ => true
  | .list ds => noDictA ds
  | .tuple ds => noDictA ds
  | .dict _ => false
def noDictA : List PyData → Bool
  | [] => true
  | d :: ds => noDict d && noDictA ds
end
section
variable {K : PySem.W.Frag} {H H' : Hp}
mutual
theorem Dt.dp : ∀ (d : PyData) (v : V), noDict d = true → Dt K H v d → Dp K H v d
  | .none, _, _, h => by cases h; exact .non
  | .bool b, _, _, h => by cases h; exact .bl b
  | .int i, _, _, h => by cases h; exact .int i
  | .str x, _, _, h => by cases h; exact .str x
  | .list ds, _, n, h => by
    cases h with
    | lst hs ha => exact .lst hs (DtA.dp ds _ n ha)
  | .tuple ds, _, n, h => by
    cases h with
    | tup hs ha => exact .tup hs (DtA.dp ds _ n ha)
  | .dict ds, _, n, h => by cases n
theorem DtA.dp : ∀ (ds : List PyData) (vs : List V), noDictA ds = true → DtA K H vs ds → DpAll K H vs ds
  | [], _, _, h => by cases h; exact .nil
  | d :: ds, _, n, h => by
    cases h with
    | cons h1 h2 =>
      have n' : (noDict d && noDictA ds) = true := n
      rw [Bool.and_eq_true] at n'
      exact .cons (Dt.dp d _ n'.1 h1) (DtA.dp ds _ n'.2 h2)
end
end

/-! ### slots -/
/-- what a view tells: by the base, what views know, the value -/
structure Vw where
  ok : Hp → Hp → V → Prop
  keep : ∀ {B G B' G' : Hp} {v : V}, ok B G v → Ex B B' → Ex G G' → ok B' G' v
def Vw.none : Vw := ⟨fun _ _ _ => True, fun _ _ _ => trivial⟩
/-- a thing that may change: what is true of it by the base, the heap, its value and the addresses that it holds; how it is viewed -/
structure Res where
  ok : Hp → Hp → V → List Addr → Prop
  keep : ∀ {B H B' H' : Hp} {v : V} {fp : List Addr}, ok B H v fp → Ex B B' → (∀ p ∈ fp, H' p = H p) → ok B' H' v fp
  al : ∀ {B H : Hp} {v : V} {fp : List Addr}, ok B H v fp → ∀ p ∈ fp, H p ≠ none
  lk : Vw := Vw.none
  see : ∀ {B H G : Hp} {v : V} {fp : List Addr}, ok B H v fp → Ex B G → (∀ p ∈ fp, G p = H p) → lk.ok B G v := by intros; trivial
/-- what is true of an own object of one address -/
structure Oz where
  ok : Hp → HO → Prop
  keep : ∀ {B B' : Hp} {x : HO}, ok B x → Ex B B' → ok B' x
def Oz.vw (Z : Oz) : Vw := ⟨fun B G v => ∃ p x, v = .ref p ∧ G p = some x ∧ Z.ok B x, fun ⟨p, x, e, g, k⟩ b eg => ⟨p, x, e, eg _ _ g, Z.keep k b⟩⟩
/-- nothing known; data of the base; a view; a view of a list whose items are data of the base; an own list (its items are data of the base); an own list that no view knows; a resource -/
inductive Sl where
  | no
  | im (d : PyData)
  | vw (d : PyData)
  | al (ds : List PyData)
  | ow (ds : List PyData)
  | yw (ds : List PyData)
  | rs (R : Res)
  | vr (A : Vw)
  | og (Z : Oz)
/-- the entry: the base, the heap, the things handed in that may change -/
structure Cz where
  B : Hp
  He : Hp
  W : List Addr
section
variable (K : PySem.W.Frag)
def SlOk (C : Cz) (B G H : Hp) : Sl → Option V → List Addr → Prop
  | .no, _, fp => fp = []
  | .im d, o, fp => fp = [] ∧ ∃ v, o = some v ∧ Dt K B v d
  | .vw d, o, fp => fp = [] ∧ ∃ v, o = some v ∧ Dt K G v d
  | .al ds, o, fp => fp = [] ∧ ∃ p xs, o = some (.ref p) ∧ G p = some (.lst xs) ∧ DtA K B xs ds
  | .ow ds, o, fp => ∃ p xs, o = some (.ref p) ∧ fp = [p] ∧ C.He p = none ∧ H p = some (.lst xs) ∧ DtA K B xs ds
  | .yw ds, o, fp => ∃ p xs, o = some (.ref p) ∧ fp = [p] ∧ C.He p = none ∧ H p = some (.lst xs) ∧ DtA K B xs ds ∧ G p = none
  | .rs R, o, fp => ∃ v, o = some v ∧ R.ok B H v fp
  | .vr A, o, fp => fp = [] ∧ ∃ v, o = some v ∧ A.ok B G v
  | .og Z, o, fp => ∃ p x, o = some (.ref p) ∧ fp = [p] ∧ C.He p = none ∧ H p = some x ∧ Z.ok B x
inductive Sls (C : Cz) (B G H : Hp) : List Sl → List (Option V) → List Addr → Prop
  | nil : Sls C B G H [] [] []
  | cons {s : Sl} {o : Option V} {f g : List Addr} {ρ : List Sl} {σ : List (Option V)} : SlOk K C B G H s o f → Sls C B G H ρ σ g → Sls C B G H (s :: ρ) (o :: σ) (f ++ g)
/-- B: the base; G: what views know; H: the heap -/
structure OkB (C : Cz) (B G : Hp) (fp : List Addr) (ρ : List Sl) (σ : List (Option V)) (H : Hp) : Prop where
  b : Ex C.B B
  g : Ex B G
  h : Ex G H
  e : ∀ a o, C.He a = some o → a ∉ C.W → H a = some o
  n : ∀ a o, B a = some o → C.B a = some o ∨ C.He a = none
  dom : ∀ a, H a = none → C.He a = none
  nd : fp.Nodup
  own : ∀ p ∈ fp, B p = none ∧ (C.He p = none ∨ p ∈ C.W)
  sls : Sls K C B G H ρ σ fp
def Ok (C : Cz) (ρ : List Sl) (σ : List (Option V)) (H : Hp) : Prop := ∃ B G fp, OkB K C B G fp ρ σ H
end
section
variable {K : PySem.W.Frag} {C : Cz} {B B' G G' H H' : Hp} {ρ : List Sl} {σ : List (Option V)} {s : Sl} {o : Option V} {fp : List Addr}
theorem OkB.bh (k : OkB K C B G fp ρ σ H) : Ex B H := k.g.trans k.h
theorem Sls.len (h : Sls K C B G H ρ σ fp) : ρ.length = σ.length := by
  induction h with
  | nil => rfl
  | cons _ _ ih => exact congrArg (· + 1) ih
theorem SlOk.al (h : SlOk K C B G H s o fp) : ∀ p ∈ fp, H p ≠ none := by
  cases s with
  | no => cases (show fp = [] from h); intro p hp; cases hp
  | im d => obtain ⟨rfl, _⟩ := (show fp = [] ∧ _ from h); intro p hp; cases hp
  | vw d => obtain ⟨rfl, _⟩ := (show fp = [] ∧ _ from h); intro p hp; cases hp
  | al d => obtain ⟨rfl, _⟩ := (show fp = [] ∧ _ from h); intro p hp; cases hp
  | ow ds =>
    obtain ⟨p, xs, _, rfl, _, e, _⟩ := h
    intro q hq
    rw [List.mem_singleton] at hq
    subst hq
    rw [e]
    exact fun z => nomatch z
  | yw ds =>
    obtain ⟨p, xs, _, rfl, _, e, _⟩ := h
    intro q hq
    rw [List.mem_singleton] at hq
    subst hq
    rw [e]
    exact fun z => nomatch z
  | rs R =>
    obtain ⟨v, _, k⟩ := h
    exact R.al k
  | vr A => obtain ⟨rfl, _⟩ := (show fp = [] ∧ _ from h); intro p hp; cases hp
  | og Z =>
    obtain ⟨p, xs, _, rfl, _, e, _⟩ := h
    intro q hq
    rw [List.mem_singleton] at hq
    subst hq
    rw [e]
    exact fun z => nomatch z
theorem Sls.al (h : Sls K C B G H ρ σ fp) : ∀ p ∈ fp, H p ≠ none := by
  induction h with
  | nil => intro p hp; cases hp
  | cons h1 _ ih =>
    intro p hp
    rcases List.mem_append.mp hp with z | z
    · exact h1.al p z
    · exact ih p z
/-- everything known stays, the base grows, what views know grows at no own thing -/
theorem SlOk.up (h : SlOk K C B G H s o fp) (b : Ex B B') (g : Ex G G') (gy : ∀ p ∈ fp, G p = none → G' p = none) (e : ∀ a x, H a = some x → H' a = some x) : SlOk K C B' G' H' s o fp := by
  cases s with
  | no => exact h
  | im d => obtain ⟨z, v, e1, k⟩ := h; exact ⟨z, v, e1, k.up b⟩
  | vw d => obtain ⟨z, v, e1, k⟩ := h; exact ⟨z, v, e1, k.up g⟩
  | al ds => obtain ⟨z, p, xs, e1, h1, k⟩ := h; exact ⟨z, p, xs, e1, g _ _ h1, k.up b⟩
  | ow ds => obtain ⟨p, xs, e1, z, n, h1, k⟩ := h; exact ⟨p, xs, e1, z, n, e _ _ h1, k.up b⟩
  | yw ds => obtain ⟨p, xs, e1, z, n, h1, k, y⟩ := h; exact ⟨p, xs, e1, z, n, e _ _ h1, k.up b, gy p (by rw [z]; exact List.mem_singleton.mpr rfl) y⟩
  | rs R =>
    obtain ⟨v, e1, k⟩ := h
    refine ⟨v, e1, R.keep k b fun p hp => ?_⟩
    cases q : H p with
    | none => exact absurd q (R.al k p hp)
    | some x => exact e _ _ q
  | vr A => obtain ⟨z, v, e1, k⟩ := h; exact ⟨z, v, e1, A.keep k b g⟩
  | og Z => obtain ⟨p, xs, e1, z, n, h1, k⟩ := h; exact ⟨p, xs, e1, z, n, e _ _ h1, Z.keep k b⟩
theorem Sls.up (h : Sls K C B G H ρ σ fp) (b : Ex B B') (g : Ex G G') (gy : ∀ p ∈ fp, G p = none → G' p = none) (e : Ex H H') : Sls K C B' G' H' ρ σ fp := by
  induction h with
  | nil => exact .nil
  | cons h1 _ ih => exact .cons (h1.up b g (fun p hp => gy p (List.mem_append_left _ hp)) e) (ih fun p hp => gy p (List.mem_append_right _ hp))
/-- new things on the heap, not in the base -/
theorem OkB.grow (k : OkB K C B G fp ρ σ H) (e : Ex H H') : OkB K C B G fp ρ σ H' :=
  ⟨k.b, k.g, k.h.trans e, fun a x q w => e _ _ (k.e a x q w), k.n, fun a q => k.dom a (fresh_back e q), k.nd, k.own, k.sls.up (Ex.refl _) (Ex.refl _) (fun _ _ q => q) e⟩
theorem Ok.grow (h : Ok K C ρ σ H) (e : Ex H H') : Ok K C ρ σ H' := by
  obtain ⟨B, G, fp, k⟩ := h
  exact ⟨B, G, fp, k.grow e⟩
theorem OkB.tail (k : OkB K C B G fp (s :: ρ) (o :: σ) H) : ∃ f g, fp = f ++ g ∧ SlOk K C B G H s o f ∧ OkB K C B G g ρ σ H := by
  obtain ⟨b, g1, h1, e, n, dom, nd, own, sls⟩ := k
  cases sls with
  | cons s1 s2 => exact ⟨_, _, rfl, s1, b, g1, h1, e, n, dom, (List.nodup_append.mp nd).2.1, fun p hp => own p (List.mem_append_right _ hp), s2⟩
theorem Ok.tail (h : Ok K C (s :: ρ) (o :: σ) H) : Ok K C ρ σ H := by
  obtain ⟨B, G, fp, k⟩ := h
  obtain ⟨f, g, _, _, k2⟩ := k.tail
  exact ⟨B, G, g, k2⟩
theorem Ok.drop2 {s1 s2 : Sl} {o1 o2 : Option V} (h : Ok K C (s1 :: s2 :: ρ) (o1 :: o2 :: σ) H) : Ok K C (s1 :: ρ) (o1 :: σ) H := by
  obtain ⟨B, G, fp, k⟩ := h
  obtain ⟨b, g1, h1, e, n, dom, nd, own, sls⟩ := k
  cases sls with
  | cons q1 q2 =>
    cases q2 with
    | @cons _ _ f g _ _ q3 q4 =>
      rename_i f1
      refine ⟨B, G, f1 ++ g, b, g1, h1, e, n, dom, ?_, fun p hp => own p ?_, .cons q1 q4⟩
      · obtain ⟨n1, n2, n3⟩ := List.nodup_append.mp nd
        obtain ⟨n4, n5, n6⟩ := List.nodup_append.mp n2
        exact List.nodup_append.mpr ⟨n1, n5, fun a ha c hc => n3 a ha c (List.mem_append_right _ hc)⟩
      · rcases List.mem_append.mp hp with z | z
        · exact List.mem_append_left _ z
        · exact List.mem_append_right _ (List.mem_append_right _ z)
/-- a slot that holds no address of its own -/
theorem OkB.cons0 (k : OkB K C B G fp ρ σ H) (h : SlOk K C B G H s o []) : OkB K C B G fp (s :: ρ) (o :: σ) H :=
  ⟨k.b, k.g, k.h, k.e, k.n, k.dom, k.nd, k.own, .cons (f := []) h k.sls⟩
theorem OkB.put {v : V} {d : PyData} (k : OkB K C B G fp ρ σ H) (h : Dt K B v d) : Ok K C (.im d :: ρ) (some v :: σ) H := ⟨B, G, fp, k.cons0 ⟨rfl, v, rfl, h⟩⟩
theorem Ok.pushNo (h : Ok K C ρ σ H) (o : Option V) : Ok K C (.no :: ρ) (o :: σ) H := by
  obtain ⟨B, G, fp, k⟩ := h
  exact ⟨B, G, fp, k.cons0 rfl⟩
theorem Ok.len (h : Ok K C ρ σ H) : ρ.length = σ.length := by
  obtain ⟨B, G, fp, k⟩ := h
  exact k.sls.len
/-- flat data -/
inductive Fl : V → PyData → Prop
  | non : Fl .non .none
  | bl (b : Bool) : Fl (.bl b) (.bool b)
  | int (i : Int) : Fl (.int i) (.int i)
  | str (x : Str) : Fl (.str x) (.str x)
theorem Fl.dt {v : V} {d : PyData} (f : Fl v d) (K : PySem.W.Frag) (B : Hp) : Dt K B v d := by
  cases f with
  | non => exact .non
  | bl b => exact .bl b
  | int i => exact .int i
  | str x => exact .str x
theorem Ok.flat {v : V} {d : PyData} (h : Ok K C ρ σ H) (f : Fl v d) : Ok K C (.im d :: ρ) (some v :: σ) H := by
  obtain ⟨B, G, fp, k⟩ := h
  exact k.put (f.dt _ _)

/-! the head as data -/
def Sl.dat : Sl → PyData → Prop
  | .no, _ => False
  | .im d, e => d = e
  | .vw d, e => d = e
  | .al ds, e => PyData.list ds = e
  | .ow ds, e => PyData.list ds = e
  | .yw ds, e => PyData.list ds = e
  | .rs _, _ => False
  | .vr _, _ => False
  | .og _, _ => False
theorem SlOk.dt {d : PyData} (h : SlOk K C B G H s o fp) (g : Ex B G) (e : Ex G H) (hd : s.dat d) : ∃ v, o = some v ∧ Dt K H v d := by
  cases s with
  | no => exact hd.elim
  | im d' =>
    cases (show d' = d from hd)
    obtain ⟨_, v, e1, k⟩ := h
    exact ⟨v, e1, k.up (g.trans e)⟩
  | vw d' =>
    cases (show d' = d from hd)
    obtain ⟨_, v, e1, k⟩ := h
    exact ⟨v, e1, k.up e⟩
  | al ds =>
    cases (show PyData.list ds = d from hd)
    obtain ⟨_, p, xs, e1, h1, k⟩ := h
    exact ⟨_, e1, .lst (.inl (.inl (e _ _ h1))) (k.up (g.trans e))⟩
  | ow ds =>
    cases (show PyData.list ds = d from hd)
    obtain ⟨p, xs, e1, _, _, h1, k⟩ := h
    exact ⟨_, e1, .lst (.inl (.inl h1)) (k.up (g.trans e))⟩
  | yw ds =>
    cases (show PyData.list ds = d from hd)
    obtain ⟨p, xs, e1, _, _, h1, k, _⟩ := h
    exact ⟨_, e1, .lst (.inl (.inl h1)) (k.up (g.trans e))⟩
  | rs R => exact hd.elim
  | vr A => exact hd.elim
  | og Z => exact hd.elim
theorem Ok.dt {v : V} {d : PyData} (h : Ok K C (s :: ρ) (some v :: σ) H) (hd : s.dat d) : Dt K H v d := by
  obtain ⟨B, G, fp, k⟩ := h
  obtain ⟨f, g, _, q1, k2⟩ := k.tail
  obtain ⟨u, e, z⟩ := q1.dt k.g k.h hd
  cases e
  exact z
def flatD : PyData → Bool
  | .none => true
  | .bool _ => true
  | .int _ => true
  | .str _ => true
  | .list _ => false
  | .tuple _ => false
  | .dict _ => false
theorem Fl.of {v : V} {d : PyData} (h : Dt K H v d) (hf : flatD d = true) : Fl v d := by
  cases h with
  | non => exact .non
  | bl b => exact .bl b
  | int i => exact .int i
  | str x => exact .str x
  | lst _ _ => cases hf
  | tup _ _ => cases hf
  | dct _ _ => cases hf
/-! a slot read -/
def Sl.look : Sl → Sl
  | .no => .no
  | .im d => .im d
  | .vw d => .vw d
  | .al ds => .al ds
  | .ow ds => .al ds
  | .yw ds => .no
  | .rs R => .vr R.lk
  | .vr A => .vr A
  | .og Z => .vr Z.vw
theorem Sls.get {i : Nat} (h : Sls K C B G H ρ σ fp) (e : ρ[i]? = some s) : ∃ o f, σ[i]? = some o ∧ SlOk K C B G H s o f ∧ ∀ p ∈ f, p ∈ fp := by
  induction h generalizing i with
  | nil => simp at e
  | @cons s1 o1 f1 g1 _ _ h1 h2 ih =>
    cases i with
    | zero =>
      simp at e
      subst e
      exact ⟨o1, f1, rfl, h1, fun p hp => List.mem_append_left _ hp⟩
    | succ i =>
      obtain ⟨o2, f2, e2, k2, z⟩ := ih (i := i) (by simpa using e)
      exact ⟨o2, f2, by simpa using e2, k2, fun p hp => List.mem_append_right _ (z p hp)⟩
/-- a slot and its things; the other slots hold none of them -/
theorem Sls.get2 {i : Nat} (h : Sls K C B G H ρ σ fp) (nd : fp.Nodup) (e : ρ[i]? = some s) : ∃ o f, σ[i]? = some o ∧ SlOk K C B G H s o f ∧ f.Nodup ∧ (∀ p ∈ f, p ∈ fp) ∧ ∀ j s' o', j ≠ i → ρ[j]? = some s' → σ[j]? = some o' → ∃ f', SlOk K C B G H s' o' f' ∧ ∀ p ∈ f', p ∉ f := by
  induction h generalizing i with
  | nil => simp at e
  | @cons s1 o1 f1 g1 ρ1 σ1 h1 h2 ih =>
    obtain ⟨n1, n2, n3⟩ := List.nodup_append.mp nd
    cases i with
    | zero =>
      simp at e
      subst e
      refine ⟨o1, f1, rfl, h1, n1, fun p hp => List.mem_append_left _ hp, fun j s' o' hj hs ho => ?_⟩
      cases j with
      | zero => exact absurd rfl hj
      | succ j =>
        obtain ⟨o2, f2, e2, k2, z⟩ := h2.get (i := j) (by simpa using hs)
        have : o2 = o' := by rw [List.getElem?_cons_succ, e2] at ho; exact Option.some.inj ho
        subst this
        exact ⟨f2, k2, fun p hp y => n3 p y p (z p hp) rfl⟩
    | succ i =>
      obtain ⟨o2, f2, e2, k2, nf, z, w⟩ := ih (i := i) n2 (by simpa using e)
      refine ⟨o2, f2, by simpa using e2, k2, nf, fun p hp => List.mem_append_right _ (z p hp), fun j s' o' hj hs ho => ?_⟩
      cases j with
      | zero =>
        simp at hs ho
        subst hs ho
        exact ⟨f1, h1, fun p hp y => n3 p hp p (z p y) rfl⟩
      | succ j => exact w j s' o' (fun y => hj (congrArg (· + 1) y)) (by simpa using hs) (by simpa using ho)
/-- views know more -/
theorem Sls.upG (h : Sls K C B G H ρ σ fp) (eG : Ex G G') (hy : ∀ (j : Nat) ds p, ρ[j]? = some (.yw ds) → σ[j]? = some (some (.ref p)) → G p = none → G' p = none) : Sls K C B G' H ρ σ fp := by
  induction h with
  | nil => exact .nil
  | @cons s1 o1 f1 g1 ρ1 σ1 h1 h2 ih =>
    refine .cons ?_ (ih fun j ds p e1 e2 q => hy (j + 1) ds p (by simpa using e1) (by simpa using e2) q)
    by_cases hs : ∃ ds, s1 = .yw ds
    · obtain ⟨ds, rfl⟩ := hs
      obtain ⟨p, xs, rfl, z, n, h1, k, y⟩ := h1
      exact ⟨p, xs, rfl, z, n, h1, k, hy 0 ds p rfl rfl y⟩
    · cases s1 with
      | no => exact h1
      | im d => exact h1
      | vw d => obtain ⟨z, v, e1, k⟩ := h1; exact ⟨z, v, e1, k.up eG⟩
      | al ds => obtain ⟨z, p, xs, e1, h1, k⟩ := h1; exact ⟨z, p, xs, e1, eG _ _ h1, k⟩
      | ow ds => exact h1
      | yw ds => exact absurd ⟨ds, rfl⟩ hs
      | rs R => exact h1
      | vr A => obtain ⟨z, v, e1, k⟩ := h1; exact ⟨z, v, e1, A.keep k (Ex.refl _) eG⟩
      | og Z => exact h1
/-- what views know grows by an own thing that is no young one -/
theorem Sls.see {p : Addr} {xs : List V} {i : Nat} {ds : List PyData} {o : Option V} (h : Sls K C B G H ρ σ fp) (nd : fp.Nodup) (e : ρ[i]? = some (.ow ds)) (eo : σ[i]? = some (some (.ref p))) (hp : H p = some (.lst xs)) (hg : Ex G H) :
    Sls K C B (upd G p (.lst xs)) H ρ σ fp := by
  have eG : Ex G (upd G p (.lst xs)) := fun a x q => by
    by_cases hap : a = p
    · subst hap
      rw [upd_same]
      have := hg _ _ q
      rw [hp] at this
      exact this
    · rw [upd_ne hap]
      exact q
  induction h generalizing i with
  | nil => exact .nil
  | @cons s1 o1 f1 g1 _ _ h1 h2 ih =>
    obtain ⟨n1, n2, n3⟩ := List.nodup_append.mp nd
    cases i with
    | zero =>
      simp at e eo
      subst e eo
      obtain ⟨p', xs', e1, rfl, z⟩ := h1
      cases e1
      refine .cons ⟨p, xs', rfl, rfl, z⟩ (h2.up (Ex.refl _) eG (fun a ha q => ?_) (Ex.refl _))
      rw [upd_ne (show a ≠ p from fun y => n3 p (by simp) a ha y.symm)]
      exact q
    | succ i =>
      have e' : _ := (show _ from e)
      refine .cons (h1.up (Ex.refl _) eG (fun a ha q => ?_) (Ex.refl _)) (ih n2 (by simpa using e) (by simpa using eo))
      obtain ⟨o2, f2, e2, k2, z⟩ := h2.get (i := i) (by simpa using e)
      obtain ⟨p', xs', e1, rfl, _⟩ := k2
      have e3 : some (some (V.ref p)) = some o2 := by rw [← e2]; simpa using eo.symm
      cases e3
      cases e1
      rw [upd_ne (show a ≠ p from fun y => n3 a ha p (z p (by simp)) y)]
      exact q
theorem Ok.alias {i : Nat} (h : Ok K C ρ σ H) (e : ρ[i]? = some s) (hn : s.look ≠ .no) : ∃ v, σ[i]? = some (some v) ∧ Ok K C (s.look :: ρ) (some v :: σ) H := by
  obtain ⟨B, G, fp, k⟩ := id h
  obtain ⟨o, f, e2, q, hf⟩ := k.sls.get e
  cases s with
  | no => exact absurd rfl hn
  | im d =>
    obtain ⟨_, v, rfl, z⟩ := q
    exact ⟨v, e2, k.put z⟩
  | vw d =>
    obtain ⟨_, v, rfl, z⟩ := q
    exact ⟨v, e2, B, G, fp, k.cons0 ⟨rfl, v, rfl, z⟩⟩
  | al ds =>
    obtain ⟨_, p, xs, rfl, h1, z⟩ := q
    exact ⟨_, e2, B, G, fp, k.cons0 ⟨rfl, p, xs, rfl, h1, z⟩⟩
  | ow ds =>
    obtain ⟨p, xs, rfl, rfl, _, h1, z⟩ := q
    have bp : B p = none := (k.own p (hf p (by simp))).1
    refine ⟨_, e2, B, upd G p (.lst xs), fp, OkB.cons0 ⟨k.b, fun a x q => ?_, fun a x q => ?_, k.e, k.n, k.dom, k.nd, k.own, k.sls.see (o := none) k.nd e e2 h1 k.h⟩ ⟨rfl, p, xs, rfl, upd_same, z⟩⟩
    · rw [upd_ne (ne_of_none q bp)]
      exact k.g _ _ q
    · by_cases hap : a = p
      · subst hap
        rw [upd_same] at q
        rw [h1]
        exact q
      · rw [upd_ne hap] at q
        exact k.h _ _ q
  | yw ds => exact absurd rfl hn
  | rs R =>
    obtain ⟨o', f', e3, ⟨v, rfl, z⟩, _, hf', dj⟩ := k.sls.get2 k.nd e
    have eG : Ex G (fun a => if a ∈ f' then H a else G a) := fun a x q => by
      show (if a ∈ f' then H a else G a) = some x
      split
      · exact k.h _ _ q
      · exact q
    have eB : Ex B (fun a => if a ∈ f' then H a else G a) := k.g.trans eG
    refine ⟨v, e3, B, fun a => if a ∈ f' then H a else G a, fp, OkB.cons0 ⟨k.b, eB, fun a x q => ?_, k.e, k.n, k.dom, k.nd, k.own, k.sls.upG eG fun j ds p e1 e4 y => ?_⟩ ⟨rfl, v, rfl, R.see z eB fun p hp => if_pos hp⟩⟩
    · have q' : (if a ∈ f' then H a else G a) = some x := q
      split at q'
      · exact q'
      · exact k.h _ _ q'
    · have hj : j ≠ i := fun y => by
        subst y
        rw [e1] at e
        cases e
      obtain ⟨f2, ⟨p', xs, e5, rfl, _⟩, d2⟩ := dj j _ _ hj e1 e4
      cases e5
      show (if p ∈ f' then H p else G p) = none
      rw [if_neg (d2 p (by simp))]
      exact y
  | vr A =>
    obtain ⟨_, v, rfl, z⟩ := q
    exact ⟨v, e2, B, G, fp, k.cons0 ⟨rfl, v, rfl, z⟩⟩
  | og Z =>
    obtain ⟨o', f', e3, ⟨p0, x0, rfl, rfl, _, hp0, z⟩, _, hf', dj⟩ := k.sls.get2 k.nd e
    have eG : Ex G (fun a => if a ∈ [p0] then H a else G a) := fun a x q => by
      show (if a ∈ [p0] then H a else G a) = some x
      split
      · exact k.h _ _ q
      · exact q
    have eB : Ex B (fun a => if a ∈ [p0] then H a else G a) := k.g.trans eG
    refine ⟨.ref p0, e3, B, fun a => if a ∈ [p0] then H a else G a, fp, OkB.cons0 ⟨k.b, eB, fun a x q => ?_, k.e, k.n, k.dom, k.nd, k.own, k.sls.upG eG fun j ds p e1 e4 y => ?_⟩ ⟨rfl, .ref p0, rfl, p0, x0, rfl, (if_pos (List.mem_singleton.mpr rfl)).trans hp0, z⟩⟩
    · have q' : (if a ∈ [p0] then H a else G a) = some x := q
      split at q'
      · exact q'
      · exact k.h _ _ q'
    · have hj : j ≠ i := fun y => by
        subst y
        rw [e1] at e
        cases e
      obtain ⟨f2, ⟨p', xs, e5, rfl, _⟩, d2⟩ := dj j _ _ hj e1 e4
      cases e5
      show (if p ∈ [p0] then H p else G p) = none
      rw [if_neg (d2 p (by simp))]
      exact y
/-- the head is stored in a slot -/
theorem Sls.put {i : Nat} {f : List Addr} (h : Sls K C B G H ρ σ fp) (hs : SlOk K C B G H s o f) : ∃ g, Sls K C B G H (ρ.set i s) (σ.set i o) g ∧ (∀ p ∈ g, p ∈ f ∨ p ∈ fp) ∧ (f.Nodup → fp.Nodup → (∀ p ∈ f, p ∉ fp) → g.Nodup) := by
  induction h generalizing i with
  | nil => exact ⟨[], .nil, fun p hp => absurd hp List.not_mem_nil, fun _ _ _ => List.nodup_nil⟩
  | @cons s1 o1 f1 g1 _ _ h1 h2 ih =>
    cases i with
    | zero =>
      refine ⟨f ++ g1, .cons hs h2, fun p hp => ?_, fun n1 n2 n3 => ?_⟩
      · rcases List.mem_append.mp hp with z | z
        · exact .inl z
        · exact .inr (List.mem_append_right _ z)
      · exact List.nodup_append.mpr ⟨n1, (List.nodup_append.mp n2).2.1, fun a ha b hb z => n3 a ha (List.mem_append_right _ (z ▸ hb))⟩
    | succ i =>
      obtain ⟨g, k1, k2, k3⟩ := ih (i := i)
      refine ⟨f1 ++ g, .cons h1 k1, fun p hp => ?_, fun n1 n2 n3 => ?_⟩
      · rcases List.mem_append.mp hp with z | z
        · exact .inr (List.mem_append_left _ z)
        · rcases k2 p z with y | y
          · exact .inl y
          · exact .inr (List.mem_append_right _ y)
      · obtain ⟨m1, m2, m3⟩ := List.nodup_append.mp n2
        refine List.nodup_append.mpr ⟨m1, k3 n1 m2 (fun p hp z => n3 p hp (List.mem_append_right _ z)), fun a ha b hb z => ?_⟩
        subst z
        rcases k2 a hb with y | y
        · exact n3 a y (List.mem_append_left _ ha)
        · exact m3 a ha a y rfl
theorem Ok.set {i : Nat} (h : Ok K C (s :: ρ) (o :: σ) H) : Ok K C (ρ.set i s) (σ.set i o) H := by
  obtain ⟨B, G, fp, k⟩ := h
  obtain ⟨b, g1, h1, e, n, dom, nd, own, sls⟩ := k
  cases sls with
  | @cons _ _ f g _ _ q1 q2 =>
    obtain ⟨n1, n2, n3⟩ := List.nodup_append.mp nd
    obtain ⟨g', k1, k2, k3⟩ := q2.put (i := i) q1
    refine ⟨B, G, g', b, g1, h1, e, n, dom, k3 n1 n2 (fun p hp z => n3 p hp p z rfl), fun p hp => own p ?_, k1⟩
    rcases k2 p hp with z | z
    · exact List.mem_append_left _ z
    · exact List.mem_append_right _ z
theorem Ex.put {B H : Hp} {p : Addr} {x : HO} (e : Ex B H) (hp : H p = some x) : Ex (upd B p x) H := fun a y q => by
  by_cases hap : a = p
  · subst hap
    rw [upd_same] at q
    rw [hp]
    exact q
  · rw [upd_ne hap] at q
    exact e a y q
theorem Ex.over {G H : Hp} {p : Addr} {x : HO} (e : Ex G H) (hp : H p = some x) : Ex G (upd G p x) := fun a y q => by
  by_cases hap : a = p
  · subst hap
    rw [upd_same]
    have := e _ _ q
    rw [hp] at this
    exact this
  · rw [upd_ne hap]
    exact q
theorem Ex.both {B G : Hp} {p : Addr} {x : HO} (e : Ex B G) : Ex (upd B p x) (upd G p x) := fun a y q => by
  by_cases hap : a = p
  · subst hap
    rw [upd_same] at q ⊢
    exact q
  · rw [upd_ne hap] at q ⊢
    exact e a y q
/-- an own list becomes data -/
theorem Ok.freeze {o : Option V} {ds : List PyData} (h : Ok K C (.ow ds :: ρ) (o :: σ) H) : Ok K C (.im (.list ds) :: ρ) (o :: σ) H := by
  obtain ⟨B, G, fp, k⟩ := h
  obtain ⟨b, g1, h1, e, n, dom, nd, own, sls⟩ := k
  cases sls with
  | @cons _ _ f g _ _ q1 q2 =>
    obtain ⟨p, xs, rfl, rfl, hn, hp, hd⟩ := q1
    have bp : B p = none := (own p (by simp)).1
    have eB : Ex B (upd B p (.lst xs)) := Ex.new bp
    refine ⟨upd B p (.lst xs), upd G p (.lst xs), g, b.trans eB, Ex.both g1, Ex.put h1 hp, e, fun a x q => ?_, dom, (List.nodup_append.mp nd).2.1, fun a ha => ?_, .cons (f := []) ⟨rfl, _, rfl, .lst (.inl (.inl upd_same)) (hd.up eB)⟩ (q2.up eB (Ex.over h1 hp) (fun a ha q => ?_) fun _ _ q => q)⟩
    · by_cases hap : a = p
      · subst hap
        exact .inr hn
      · rw [upd_ne hap] at q
        exact n a x q
    · have z := own a (List.mem_append_right _ ha)
      refine ⟨?_, z.2⟩
      rw [upd_ne (show a ≠ p from fun y => (List.nodup_append.mp nd).2.2 p (by simp) a ha y.symm)]
      exact z.1
    · rw [upd_ne (show a ≠ p from fun y => (List.nodup_append.mp nd).2.2 p (by simp) a ha y.symm)]
      exact q
theorem Ok.old {o : Option V} {ds : List PyData} (h : Ok K C (.yw ds :: ρ) (o :: σ) H) : Ok K C (.ow ds :: ρ) (o :: σ) H := by
  obtain ⟨B, G, fp, k⟩ := h
  obtain ⟨b, g1, h1, e, n, dom, nd, own, sls⟩ := k
  cases sls with
  | cons q1 q2 =>
    obtain ⟨p, xs, e1, z, hn, hp, hd, _⟩ := q1
    exact ⟨B, G, _, b, g1, h1, e, n, dom, nd, own, .cons ⟨p, xs, e1, z, hn, hp, hd⟩ q2⟩
/-- an own list as a view of it -/
theorem Ok.toAl {o : Option V} {ds : List PyData} (h : Ok K C (.ow ds :: ρ) (o :: σ) H) : Ok K C (.al ds :: ρ) (o :: σ) H := by
  obtain ⟨v, e, k⟩ := h.alias (i := 0) rfl (by intro z; cases z)
  cases e
  exact k.drop2
theorem Ok.toVw {v : V} {d : PyData} (h : Ok K C (s :: ρ) (some v :: σ) H) (hd : s.dat d) : Ok K C (.vw d :: ρ) (some v :: σ) H := by
  have fin : ∀ ds, Ok K C (.al ds :: ρ) (some v :: σ) H → Ok K C (.vw (.list ds) :: ρ) (some v :: σ) H := fun ds k => by
    obtain ⟨B, G, fp, k⟩ := k
    obtain ⟨f, g, _, ⟨_, p, xs, e1, h1, z⟩, k2⟩ := k.tail
    cases e1
    exact ⟨B, G, g, k2.cons0 ⟨rfl, _, rfl, .lst (.inl (.inl h1)) (z.up k2.g)⟩⟩
  cases s with
  | no => exact hd.elim
  | im d' =>
    cases (show d' = d from hd)
    obtain ⟨B, G, fp, k⟩ := h
    obtain ⟨f, g, _, ⟨_, u, e1, z⟩, k2⟩ := k.tail
    cases e1
    exact ⟨B, G, g, k2.cons0 ⟨rfl, v, rfl, z.up k2.g⟩⟩
  | vw d' =>
    cases (show d' = d from hd)
    exact h
  | al ds =>
    cases (show PyData.list ds = d from hd)
    exact fin ds h
  | ow ds =>
    cases (show PyData.list ds = d from hd)
    exact fin ds h.toAl
  | yw ds =>
    cases (show PyData.list ds = d from hd)
    exact fin ds h.old.toAl
  | rs R => exact hd.elim
  | vr A => exact hd.elim
  | og Z => exact hd.elim
theorem Ok.fresh {p : Addr} (k : OkB K C B G fp ρ σ H) (hp : H p = none) : B p = none ∧ G p = none ∧ C.He p = none ∧ p ∉ fp :=
  ⟨fresh_back k.bh hp, fresh_back k.h hp, k.dom p hp, fun z => k.sls.al p z hp⟩
/-- a new object that is laid in the base too -/
theorem OkB.lay {p : Addr} {x : HO} (k : OkB K C B G fp ρ σ H) (hp : H p = none) : OkB K C (upd B p x) (upd G p x) fp ρ σ (upd H p x) := by
  obtain ⟨bp, gp, ep, np⟩ := Ok.fresh k hp
  have eB : Ex B (upd B p x) := Ex.new bp
  have eG : Ex G (upd G p x) := Ex.new gp
  have eH : Ex H (upd H p x) := Ex.new hp
  refine ⟨k.b.trans eB, Ex.both k.g, Ex.both k.h, fun a y q w => eH _ _ (k.e a y q w), fun a y q => ?_, fun a q => k.dom a (fresh_back eH q), k.nd, fun a ha => ?_, k.sls.up eB eG (fun a ha q => ?_) eH⟩
  · by_cases hap : a = p
    · subst hap
      exact .inr ep
    · rw [upd_ne hap] at q
      exact k.n a y q
  · have z := k.own a ha
    refine ⟨?_, z.2⟩
    rw [upd_ne (show a ≠ p from fun y => np (y ▸ ha))]
    exact z.1
  · rw [upd_ne (show a ≠ p from fun y => np (y ▸ ha))]
    exact q
/-- .. and one that is not -/
theorem OkB.layOwn {p : Addr} {x : HO} (k : OkB K C B G fp ρ σ H) (hp : H p = none) : OkB K C B G fp ρ σ (upd H p x) := k.grow (Ex.new hp)
theorem Sls.heads {ds : List PyData} {vs : List V} (l : vs.length = ds.length) (h : Sls K C B G H (ds.map Sl.im ++ ρ) (vs.map some ++ σ) fp) : DtA K B vs ds ∧ Sls K C B G H ρ σ fp := by
  induction ds generalizing vs fp with
  | nil =>
    cases vs with
    | nil => exact ⟨.nil, h⟩
    | cons v vs => cases l
  | cons d ds ih =>
    cases vs with
    | nil => cases l
    | cons v vs =>
      cases h with
      | cons q1 q2 =>
        obtain ⟨rfl, u, e, z⟩ := q1
        cases e
        obtain ⟨h1, h2⟩ := ih (Nat.succ.inj l) q2
        exact ⟨.cons z h1, h2⟩
theorem OkB.heads {ds : List PyData} {vs : List V} (l : vs.length = ds.length) (k : OkB K C B G fp (ds.map Sl.im ++ ρ) (vs.map some ++ σ) H) : DtA K B vs ds ∧ OkB K C B G fp ρ σ H := by
  obtain ⟨h1, h2⟩ := Sls.heads l k.sls
  exact ⟨h1, k.b, k.g, k.h, k.e, k.n, k.dom, k.nd, k.own, h2⟩
theorem OkB.putYw {p : Addr} {xs : List V} {ds : List PyData} (k : OkB K C B G fp ρ σ H) (hp : H p = none) (h : DtA K B xs ds) : Ok K C (.yw ds :: ρ) (some (.ref p) :: σ) (upd H p (.lst xs)) := by
  obtain ⟨bp, gp, ep, np⟩ := Ok.fresh k hp
  have k2 := k.layOwn (x := .lst xs) hp
  refine ⟨B, G, [p] ++ fp, k2.b, k2.g, k2.h, k2.e, k2.n, k2.dom, ?_, fun a ha => ?_, .cons ⟨p, xs, rfl, rfl, ep, upd_same, h, gp⟩ k2.sls⟩
  · exact List.nodup_cons.mpr ⟨np, k2.nd⟩
  · rcases List.mem_append.mp ha with z | z
    · rw [List.mem_singleton] at z
      subst z
      exact ⟨bp, .inl ep⟩
    · exact k2.own a z
theorem OkB.putOwn {p : Addr} {xs : List V} {ds : List PyData} (k : OkB K C B G fp ρ σ H) (hp : H p = none) (h : DtA K B xs ds) : Ok K C (.ow ds :: ρ) (some (.ref p) :: σ) (upd H p (.lst xs)) := (k.putYw hp h).old
/-- the base data of an im head -/
theorem Ok.head {v : V} {d : PyData} (h : Ok K C (.im d :: ρ) (some v :: σ) H) : ∃ B G fp, OkB K C B G fp ρ σ H ∧ Dt K B v d := by
  obtain ⟨B, G, fp, k⟩ := h
  obtain ⟨h1, k2⟩ := OkB.heads (ds := [d]) (vs := [v]) rfl k
  cases h1 with
  | cons q _ => exact ⟨B, G, fp, k2, q⟩
/-- an own thing of the state changes: the others hold nothing of it -/
theorem SlOk.write {p : Addr} {x : HO} {f1 : List Addr} (h1 : SlOk K C B G H s o f1) (n1 : p ∉ f1) : SlOk K C B G (upd H p x) s o f1 := by
  cases s with
  | no => exact h1
  | im d => exact h1
  | vw d => exact h1
  | al ds => exact h1
  | ow ds =>
    obtain ⟨q, xs, e1, rfl, hn, hq, z⟩ := h1
    exact ⟨q, xs, e1, rfl, hn, by rw [upd_ne (show q ≠ p from fun y => n1 (by simp [y]))]; exact hq, z⟩
  | yw ds =>
    obtain ⟨q, xs, e1, rfl, hn, hq, z⟩ := h1
    exact ⟨q, xs, e1, rfl, hn, by rw [upd_ne (show q ≠ p from fun y => n1 (by simp [y]))]; exact hq, z⟩
  | rs R =>
    obtain ⟨v, e1, k⟩ := h1
    exact ⟨v, e1, R.keep k (Ex.refl _) fun q hq => upd_ne (show q ≠ p from fun y => n1 (y ▸ hq))⟩
  | vr A => exact h1
  | og Z =>
    obtain ⟨q, xs, e1, rfl, hn, hq, z⟩ := h1
    exact ⟨q, xs, e1, rfl, hn, by rw [upd_ne (show q ≠ p from fun y => n1 (by simp [y]))]; exact hq, z⟩
theorem Sls.write {p : Addr} {x : HO} (h : Sls K C B G H ρ σ fp) (np : p ∉ fp) (gp : G p = none) : Sls K C B G (upd H p x) ρ σ fp := by
  induction h with
  | nil => exact .nil
  | cons h1 h2 ih => exact .cons (h1.write fun z => np (List.mem_append_left _ z)) (ih fun z => np (List.mem_append_right _ z))
/-- the young list grows by a datum -/
theorem Ok.grew {y v : V} {d : PyData} {ds : List PyData} (h : Ok K C (.im d :: .yw ds :: ρ) (some y :: some v :: σ) H) :
    ∃ p xs, v = .ref p ∧ H p = some (.lst xs) ∧ xs.length = ds.length ∧ Ok K C (.yw (ds ++ [d]) :: ρ) (some v :: σ) (upd H p (.lst (xs ++ [y]))) := by
  obtain ⟨B, G, fp, k, hy⟩ := h.head
  obtain ⟨b, g1, h1, e, n, dom, nd, own, sls⟩ := k
  cases sls with
  | @cons _ _ f g _ _ q1 q2 =>
    obtain ⟨p, xs, e1, rfl, hn, hp, hd, gp⟩ := q1
    cases e1
    have bp := (own p (by simp)).1
    have np : p ∉ g := fun z => (List.nodup_append.mp nd).2.2 p (by simp) p z rfl
    refine ⟨p, xs, rfl, hp, hd.len, B, G, [p] ++ g, b, g1, fun a x q => ?_, fun a x q w => ?_, n, fun a q => ?_, nd, own, .cons ⟨p, _, rfl, rfl, hn, upd_same, hd.app (.cons hy .nil), gp⟩ (q2.write np gp)⟩
    · rw [upd_ne (ne_of_none q gp)]
      exact h1 _ _ q
    · rw [upd_ne (ne_of_none q hn)]
      exact e _ _ q w
    · by_cases hap : a = p
      · subst hap
        exact hn
      · rw [upd_ne hap] at q
        exact dom a q
end
end Kd

set_option Elab.async false
set_option linter.all false
set_option maxRecDepth 100000
namespace Kd
open PySem L2
open Evl (Ex ex_l ex_t ex_rd fresh_back)
theorem takes0N {X : Cx} : L2N.Takes X (fun _ _ _ _ => False) := fun _ _ ⟨_, _, _, _, _, _, _, _, _, _, _, _, _, _, _, _, w⟩ => w.elim
/-- a def by its body, errors told with their context -/
theorem _root_.L2.Fun.okN {P : Program} {w : World} {K : PySem.W.Frag} {mg : Str → Option Value} {base : Heap} {x qual : Str} {st : Stmt} {f : Addr} {fd : FuncData} {N ps : List Str} {k : Nat} {sp : Sp} (F : Fun K x qual st f fd) (S : FnScope N ps (defScope st)) (hl : ∀ vs H Q E, sp vs H Q E → vs.length = ps.length)
    (hbd : ∀ (cdv : Value) (A : Around) (outer : List Env) (s : Shared) (H : Hp) (vs : List V) (Q : VK) (E : XK), Room k (A.deeper (PyProof.Rows.envOfC qual (defScope st) s.heap.objs.size f cdv)) → sp vs H Q E →
      ∃ t, PSs (cxOf (L2N.CX P w) P w K mg base N qual (defScope st) f cdv A outer s H E) (defBody st) t ∧ t ⟨fun _ H' => Q .non H', Q, fun _ _ => False, fun _ _ => False⟩ (start N vs) H) : FnOk P w K mg base (L2N.CX P w) (k + 1) f fd ps sp := by
  obtain ⟨_, _, _, _, _, _, cdv, _, _, rfl, lk, hcd⟩ := F.ex
  exact fn_of lk hcd S hl (fun A o s H vs Q E a b => hbd cdv A o s H vs Q E a b)
/-! ### where one stands: a class of contexts -/
structure Md where
  P : Program
  w : World
  K : PySem.W.Frag
  mg : Str → Option Value
  base : Heap
structure Sh extends Md where
  N : List Str
  sc : Scope
  k : Nat
  E : XK
  fa : Bool
structure Sh.Has (S : Sh) (X : Cx) : Prop where
  prog : X.prog = S.P
  w : X.w = S.w
  K : X.K = S.K
  mg : X.mg = S.mg
  base : X.base = S.base
  N : X.N = S.N
  sc : X.env.scope = S.sc
  calm : X.calm = true
  room : Room S.k X.A
  tk : L2N.Takes X (fun cls d _ H => S.E cls d H)
  own : PassesOwn (model X.prog X.w) X.A X.env X.xe
  fn : S.fa = true → ∀ x, X.fn x = true
  sk : S.fa = true → X.stack = X.env :: X.outer ∧ X.env.frame = some X.env.locals
/-! ### what a reading evaluates to, over data -/
def EV (K : PySem.W.Frag) (te : TE) (ρ : List Sl) (r : Sl) : Prop := ∀ (C : Cz) (τ : List Sl) (vs σ : List (Option V)) (H : Hp), Ok K C (τ ++ ρ) (vs ++ σ) H → τ.length = vs.length →
  ∀ Q : VK, (∀ v H', Ok K C (r :: (τ ++ ρ)) (some v :: (vs ++ σ)) H' → Q v H') → te σ H Q
def EA (K : PySem.W.Frag) (ta : TA) (ρ : List Sl) (rs : List Sl) : Prop := ∀ (C : Cz) (τ : List Sl) (vs σ : List (Option V)) (H : Hp), Ok K C (τ ++ ρ) (vs ++ σ) H → τ.length = vs.length →
  ∀ Q : List V → Hp → Prop, (∀ ws H', ws.length = rs.length → Ok K C (rs.reverse ++ (τ ++ ρ)) (ws.reverse.map some ++ (vs ++ σ)) H' → Q ws H') → ta σ H Q
def ET (K : PySem.W.Frag) (tt : TT) (ρ : List Sl) (b : Bool) : Prop := ∀ (C : Cz) (τ : List Sl) (vs σ : List (Option V)) (H : Hp), Ok K C (τ ++ ρ) (vs ++ σ) H → τ.length = vs.length →
  ∀ Q : Bool → Hp → Prop, (∀ H', Ok K C (τ ++ ρ) (vs ++ σ) H' → Q b H') → tt σ H Q
/-! ### the best reading of a piece of syntax -/
section
variable (S : Sh)
def wE (e : Expr) : TE := fun σ H Q => ∃ t, (∀ X, S.Has X → PE X e t) ∧ t σ H Q
def wT (e : Expr) : TT := fun σ H Q => ∃ t, (∀ X, S.Has X → PT X e t) ∧ t σ H Q
def wW (e : Expr) : TT := fun σ H Q => ∃ t, (∀ X, S.Has X → PW X e t) ∧ t σ H Q
def wA (es : List Expr) : TA := fun σ H Q => ∃ t, (∀ X, S.Has X → PA X es t) ∧ t σ H Q
def wS (st : Stmt) : TS := fun D σ H => ∃ t, (∀ X, S.Has X → PS X st t) ∧ t D σ H
def wB (st : List Stmt) : TS := fun D σ H => ∃ t, (∀ X, S.Has X → PSs X st t) ∧ t D σ H
def wOp (f : Value → Value → Sem Value) : R2 := fun x y H Q => ∃ r : R2, (∀ X, S.Has X → OpR X f r) ∧ r x y H Q
def wCall (f : Value) : List V → Hp → VK → Prop := fun xs H Q => ∃ r, (∀ X, S.Has X → CallR X f r) ∧ r xs H Q
def wIx : R2 := fun x y H Q => ∃ r : R2, (∀ X, S.Has X → IxR X r) ∧ r x y H Q
def wSl : V → Option Int → Option Int → Hp → VK → Prop := fun x l u H Q => ∃ r, (∀ X, S.Has X → SlR X r) ∧ r x l u H Q
def wMt (id : String) : V → List V → Hp → VK → Prop := fun x xs H Q => ∃ r, (∀ X, S.Has X → MtR X id r) ∧ r x xs H Q
def VE (ρ : List Sl) (e : Expr) (r : Sl) : Prop := EV S.K (wE S e) ρ r
def VA (ρ : List Sl) (es : List Expr) (rs : List Sl) : Prop := EA S.K (wA S es) ρ rs
def VT (ρ : List Sl) (e : Expr) (b : Bool) : Prop := ET S.K (wT S e) ρ b
def VW (ρ : List Sl) (e : Expr) (b : Bool) : Prop := ET S.K (wW S e) ρ b
end
section
variable {S : Sh} {X : Cx}
theorem wE_pe {e : Expr} (h : S.Has X) : PE X e (wE S e) := ⟨fun pins s σ H Q I ⟨_, ht, q⟩ => (ht X h).run pins s σ H Q I q⟩
theorem wT_pt {e : Expr} (h : S.Has X) : PT X e (wT S e) := ⟨fun pins s σ H Q I ⟨_, ht, q⟩ => (ht X h).run pins s σ H Q I q⟩
theorem wW_pw {e : Expr} (h : S.Has X) : PW X e (wW S e) := ⟨fun wh pins s σ H Q I ⟨_, ht, q⟩ => (ht X h).run wh pins s σ H Q I q⟩
theorem wA_pa {es : List Expr} (h : S.Has X) : PA X es (wA S es) := ⟨fun pos pins s σ H Q I ⟨_, ht, q⟩ => (ht X h).run pos pins s σ H Q I q⟩
theorem wS_ps {st : Stmt} (h : S.Has X) : PS X st (wS S st) := ⟨fun pins s σ H D I ⟨_, ht, q⟩ => (ht X h).run pins s σ H D I q⟩
theorem wB_pss {st : List Stmt} (h : S.Has X) : PSs X st (wB S st) := ⟨fun pins s σ H D I ⟨_, ht, q⟩ => (ht X h).run pins s σ H D I q⟩
theorem wOp_op {f : Value → Value → Sem Value} (h : S.Has X) : OpR X f (wOp S f) := fun pins s σ H x y v u Q I r1 r2 ⟨_, ht, q⟩ => ht X h pins s σ H x y v u Q I r1 r2 q
theorem wCall_call {f : Value} (h : S.Has X) : CallR X f (wCall S f) := fun pins s σ H xs us Q I r ⟨_, ht, q⟩ => ht X h pins s σ H xs us Q I r q
theorem wIx_ix (h : S.Has X) : IxR X (wIx S) := fun value slice pins s σ H x y v u Q I r1 r2 ⟨_, ht, q⟩ hs => ht X h value slice pins s σ H x y v u Q I r1 r2 q hs
theorem wSl_sl (h : S.Has X) : SlR X (wSl S) := fun pins s σ H x v vl vu lo hi sl Q I rx hs pl pu ⟨_, ht, q⟩ => ht X h pins s σ H x v vl vu lo hi sl Q I rx hs pl pu q
theorem wMt_mt {id : String} (h : S.Has X) : MtR X id (wMt S id) := fun pins s σ H x xs v us Q I r1 r2 ⟨_, ht, q⟩ => ht X h pins s σ H x xs v us Q I r1 r2 q
end
/-! ### operators over data: what is on top of the state, taken for the result -/
/-- two values on top become one -/
def OD (S : Sh) (f : Value → Value → Sem Value) (s1 s2 s3 : Sl) : Prop := ∀ (C : Cz) (l : List Sl) (os : List (Option V)) (v1 v2 : V) (H : Hp), Ok S.K C (s2 :: s1 :: l) (some v2 :: some v1 :: os) H →
  ∀ Q : VK, (∀ v H', Ok S.K C (s3 :: l) (some v :: os) H' → Q v H') → wOp S f v1 v2 H Q
def XD (S : Sh) (s1 s2 s3 : Sl) : Prop := ∀ (C : Cz) (l : List Sl) (os : List (Option V)) (v1 v2 : V) (H : Hp), Ok S.K C (s2 :: s1 :: l) (some v2 :: some v1 :: os) H →
  ∀ Q : VK, (∀ v H', Ok S.K C (s3 :: l) (some v :: os) H' → Q v H') → wIx S v1 v2 H Q
def CD (S : Sh) (f : Value) (rs : List Sl) (s3 : Sl) : Prop := ∀ (C : Cz) (l : List Sl) (os : List (Option V)) (ws : List V) (H : Hp), ws.length = rs.length → Ok S.K C (rs.reverse ++ l) (ws.reverse.map some ++ os) H →
  ∀ Q : VK, (∀ v H', Ok S.K C (s3 :: l) (some v :: os) H' → Q v H') → wCall S f ws H Q
section
variable {S : Sh} {ρ : List Sl} {e a b : Expr} {r s1 s2 s3 : Sl} {pos : Pos}
theorem ve_of {t : TE} (ht : ∀ X, S.Has X → PE X e t) (h : EV S.K t ρ r) : VE S ρ e r := fun C τ vs σ H k l Q q => ⟨t, ht, h C τ vs σ H k l Q q⟩
theorem vt_of {t : TT} {b : Bool} (ht : ∀ X, S.Has X → PT X e t) (h : ET S.K t ρ b) : VT S ρ e b := fun C τ vs σ H k l Q q => ⟨t, ht, h C τ vs σ H k l Q q⟩
theorem va_of {t : TA} {es : List Expr} {rs : List Sl} (ht : ∀ X, S.Has X → PA X es t) (h : EA S.K t ρ rs) : VA S ρ es rs := fun C τ vs σ H k l Q q => ⟨t, ht, h C τ vs σ H k l Q q⟩
/-! names and constants -/
theorem ev_c {v : V} {d : PyData} (f : Fl v d) : EV S.K (tC v) ρ (.im d) := fun C τ vs σ H k l Q q => q v H (k.flat f)
theorem ve_int {i : Int} {j : Nat} : VE S ρ (.Constant (.int i) j pos) (.im (.int i)) := ve_of (fun _ _ => pe_int) (ev_c (.int i))
theorem ve_bl {i : Bool} {j : Nat} : VE S ρ (.Constant (.bool i) j pos) (.im (.bool i)) := ve_of (fun _ _ => pe_bl) (ev_c (.bl i))
theorem ve_non {j : Nat} : VE S ρ (.Constant .none j pos) (.im .none) := ve_of (fun _ _ => pe_non) (ev_c .non)
theorem ve_str {x : Str} {j : Nat} : VE S ρ (.Constant (.str x) j pos) (.im (.str x)) := ve_of (fun _ _ => pe_str) (ev_c (.str x))
theorem off_get {τ ρ : List Sl} {i : Nat} {s : Sl} (h : ρ[i]? = some s) : (τ ++ ρ)[τ.length + i]? = some s := by
  rw [List.getElem?_append_right (Nat.le_add_right _ _), Nat.add_sub_cancel_left]
  exact h
theorem off_set {τ ρ : List Sl} {i : Nat} {s : Sl} : (τ ++ ρ).set (τ.length + i) s = τ ++ ρ.set i s := by
  rw [List.set_append_right _ _ (Nat.le_add_right _ _), Nat.add_sub_cancel_left]
def lookR (ρ : List Sl) (i : Nat) : Option Sl := match ρ[i]? with
  | some s => (match s.look with | .no => none | r => some r)
  | none => none
theorem lookR_ok {ρ : List Sl} {i : Nat} {r : Sl} (h : lookR ρ i = some r) : ∃ s, ρ[i]? = some s ∧ s.look = r ∧ s.look ≠ .no := by
  unfold lookR at h
  split at h
  · rename_i s e
    split at h
    · cases h
    · rename_i hn
      cases h
      exact ⟨s, e, rfl, hn⟩
  · cases h
theorem ve_var (i : Nat) {x : Str} {r : Sl} (hs : lookR ρ i = some r := by rfl) (hN : S.N[i]? = some x := by rfl) (hv : Vis S.sc x := by walk_at "kd vis") (hd : (x == ("__debug__" : Str)) = false := by decide) (hcd : (x == ("__classdict__" : Str)) = false := by decide) :
    VE S ρ (.Name x pos) r := by
  obtain ⟨s, hs1, rfl, hn⟩ := lookR_ok hs
  exact ve_of (t := tVar i) (fun X hX => pe_var (by rw [hX.N]; exact hN) (by rw [hX.sc]; exact hv) hd hcd) fun C τ vs σ H k l Q q => by
    obtain ⟨v, e, k2⟩ := k.alias (off_get hs1) hn
    rw [l, List.getElem?_append_right (Nat.le_add_right _ _), Nat.add_sub_cancel_left] at e
    exact ⟨v, e, q v H k2⟩
theorem ve_glob {x : Str} {v : V} {u : Value} {d : PyData} (hm : S.mg x = some u) (r : RelV v u) (f : Fl v d) (hg : S.sc.names.lookup x = some .globalImplicit := by rfl) (hd : (x == ("__debug__" : Str)) = false := by decide) : VE S ρ (.Name x pos) (.im d) :=
  ve_of (fun X hX => pe_glob (by show X.env.scope.names.lookup x = _; rw [hX.sc]; exact hg) (by rw [hX.mg]; exact hm) r hd) (ev_c f)
theorem ve_globI {x : Str} {n : Int} (hm : ∃ t, S.mg x = some (.int n t)) (hg : S.sc.names.lookup x = some .globalImplicit := by rfl) (hd : (x == ("__debug__" : Str)) = false := by decide) : VE S ρ (.Name x pos) (.im (.int n)) := by
  obtain ⟨t, hm⟩ := hm
  exact ve_glob (v := .int n) hm ⟨t, rfl⟩ (.int n) hg hd
/-! weakening -/
theorem ve_im {ds : List PyData} (h : VE S ρ e (.ow ds)) : VE S ρ e (.im (.list ds)) := fun C τ vs σ H k l Q q => h C τ vs σ H k l Q fun v H' k2 => q v H' k2.freeze
theorem ve_vw {d : PyData} (h : VE S ρ e r) (hd : r.dat d) : VE S ρ e (.vw d) := fun C τ vs σ H k l Q q => h C τ vs σ H k l Q fun v H' k2 => q v H' (k2.toVw hd)
theorem ve_fl {d : PyData} (h : VE S ρ e (.vw d)) (hf : flatD d = true) : VE S ρ e (.im d) := fun C τ vs σ H k l Q q => h C τ vs σ H k l Q fun v H' k2 =>
  q v H' (k2.tail.flat (Fl.of (k2.dt (d := d) rfl) hf))
theorem ve_is {r' : Sl} (h : VE S ρ e r) (z : r = r') : VE S ρ e r' := z ▸ h
/-! operators -/
theorem ve_bin {op : Operator} (ha : VE S ρ a s1) (hb : VE S ρ b s2) (ho : OD S (binaryOp op) s1 s2 s3 := by walk_at "kd od") : VE S ρ (.BinOp a op b pos) s3 :=
  ve_of (t := tOp (wOp S (binaryOp op)) (wE S a) (wE S b)) (fun X hX => pe_op (wOp_op hX) (wE_pe hX) (wE_pe hX)) fun C τ vs σ H k l Q q => ha C τ vs σ H k l _ fun v1 H1 k1 =>
    hb C (s1 :: τ) (some v1 :: vs) σ H1 k1 (congrArg (· + 1) l) _ fun v2 H2 k2 => ho C _ _ v1 v2 H2 k2 Q q
theorem ve_cmp {op : CmpOp} (ha : VE S ρ a s1) (hb : VE S ρ b s2) (ho : OD S (compareOp op) s1 s2 s3 := by walk_at "kd od") (hm : behindInMarks op b = false := by walk_at "kd mark") : VE S ρ (.Compare a [op] [b] pos) s3 :=
  ve_of (t := tOp (wOp S (compareOp op)) (wE S a) (wE S b)) (fun X hX => pe_cmpR (wOp_op hX) (wE_pe hX) (wE_pe hX) hm) fun C τ vs σ H k l Q q => ha C τ vs σ H k l _ fun v1 H1 k1 =>
    hb C (s1 :: τ) (some v1 :: vs) σ H1 k1 (congrArg (· + 1) l) _ fun v2 H2 k2 => ho C _ _ v1 v2 H2 k2 Q q
theorem Ok.bl {K : PySem.W.Frag} {C : Cz} {v : V} {b : Bool} {H : Hp} {ρ : List Sl} {σ : List (Option V)} (h : Ok K C (.im (.bool b) :: ρ) (some v :: σ) H) : v = .bl b := by
  have k := h.dt (d := .bool b) rfl
  cases k
  rfl
theorem Ok.int {K : PySem.W.Frag} {C : Cz} {v : V} {b : Int} {H : Hp} {ρ : List Sl} {σ : List (Option V)} (h : Ok K C (.im (.int b) :: ρ) (some v :: σ) H) : v = .int b := by
  have k := h.dt (d := .int b) rfl
  cases k
  rfl
theorem Ok.str {K : PySem.W.Frag} {C : Cz} {v : V} {b : Str} {H : Hp} {ρ : List Sl} {σ : List (Option V)} (h : Ok K C (.im (.str b) :: ρ) (some v :: σ) H) : v = .str b := by
  have k := h.dt (d := .str b) rfl
  cases k
  rfl
theorem vt_cmp {op : CmpOp} {c : Bool} (ha : VE S ρ a s1) (hb : VE S ρ b s2) (ho : OD S (compareOp op) s1 s2 (.im (.bool c)) := by walk_at "kd od") (hm : behindInMarks op b = false := by walk_at "kd mark") : VT S ρ (.Compare a [op] [b] pos) c :=
  vt_of (t := tTest (tOp (wOp S (compareOp op)) (wE S a) (wE S b))) (fun X hX => pt_cmpR (wOp_op hX) (wE_pe hX) (wE_pe hX) hm) fun C τ vs σ H k l Q q => ha C τ vs σ H k l _ fun v1 H1 k1 =>
    hb C (s1 :: τ) (some v1 :: vs) σ H1 k1 (congrArg (· + 1) l) _ fun v2 H2 k2 => ho C _ _ v1 v2 H2 k2 _ fun v H3 k3 => by
      have e := k3.bl
      subst e
      exact ⟨c, rfl, q H3 k3.tail⟩
theorem vt_val {c : Bool} (ha : VE S ρ e (.im (.bool c))) (he : ∀ (X : Cx) whole, isTrue e X.env whole = (do let v ← whole; standAt e.pos; holding [v] (truthy v)) := by intro _ _; rfl) : VT S ρ e c :=
  vt_of (t := tB (wE S e)) (fun X hX => pt_val (wE_pe hX) (he X)) fun C τ vs σ H k l Q q => ha C τ vs σ H k l _ fun v H3 k3 => by
      have e := k3.bl
      subst e
      exact ⟨c, rfl, q H3 k3.tail⟩
theorem vt_is {c c' : Bool} (h : VT S ρ e c) (z : c = c') : VT S ρ e c' := z ▸ h
/-! comparisons of ints, chains -/
def cmpI : CmpOp → Int → Int → Bool
  | .Lt, i, j => decide (i < j)
  | .LtE, i, j => decide (i ≤ j)
  | .Gt, i, j => decide (j < i)
  | .GtE, i, j => decide (j ≤ i)
  | .Eq, i, j => decide (i = j)
  | .NotEq, i, j => !decide (i = j)
  | _, _, _ => false
def isCmp : CmpOp → Bool
  | .Lt | .LtE | .Gt | .GtE | .Eq | .NotEq => true
  | _ => false
theorem cmp_int {X : Cx} {op : CmpOp} (h : isCmp op = true) : OpR X (compareOp op) (rI0 fun i j => .bl (cmpI op i j)) := by
  cases op with
  | Lt => exact op_lt
  | LtE => exact op_le
  | Gt => exact op_gt
  | GtE => exact op_ge
  | Eq =>
    intro pins s σ H x y v u Q I r1 r2 q
    obtain ⟨i, j, rfl, rfl, q⟩ := q
    refine op_eq pins s σ H _ _ v u Q I r1 r2 ⟨rfl, ?_⟩
    rw [show decide (V.int i = V.int j) = decide (i = j) by rw [dec_int, Bool.beq_eq_decide_eq]]
    exact q
  | NotEq =>
    intro pins s σ H x y v u Q I r1 r2 q
    obtain ⟨i, j, rfl, rfl, q⟩ := q
    refine op_ne pins s σ H _ _ v u Q I r1 r2 ⟨rfl, ?_⟩
    rw [show decide (V.int i = V.int j) = decide (i = j) by rw [dec_int, Bool.beq_eq_decide_eq]]
    exact q
  | _ => cases h
theorem od_cmpI {op : CmpOp} {i j : Int} (h : isCmp op = true := by rfl) : OD S (compareOp op) (.im (.int i)) (.im (.int j)) (.im (.bool (cmpI op i j))) := fun C l os v1 v2 H k Q q => by
  have e2 := k.int
  have e1 := k.tail.int
  subst e1 e2
  exact ⟨_, fun X _ => cmp_int h, i, j, rfl, rfl, q _ _ (k.tail.tail.flat (.bl _))⟩
theorem ve_chain {op op' : CmpOp} {c : Expr} {i j n : Int} (ha : VE S ρ a (.im (.int i))) (hb : VE S ρ b (.im (.int j))) (hc : VE S ρ c (.im (.int n))) (o1 : isCmp op = true := by rfl) (o2 : isCmp op' = true := by rfl)
    (hm : lastMarks [op, op'] [b, c] = false := by with_unfolding_all rfl) : VE S ρ (.Compare a [op, op'] [b, c] pos) (.im (.bool (cmpI op i j && cmpI op' j n))) :=
  ve_of (t := tChain (rI0 fun i j => .bl (cmpI op i j)) (rI0 fun i j => .bl (cmpI op' i j)) (wE S a) (wE S b) (wE S c)) (fun X hX => pe_chain (cmp_int o1) (cmp_int o2) (wE_pe hX) (wE_pe hX) (wE_pe hX) hm) fun C τ vs σ H k l Q q => ha C τ vs σ H k l _ fun v1 H1 k1 =>
    hb C (_ :: τ) (some v1 :: vs) σ H1 k1 (congrArg (· + 1) l) _ fun v2 H2 k2 => by
      have e2 := k2.int
      have e1 := k2.tail.int
      subst e1 e2
      refine ⟨i, j, rfl, rfl, _, rfl, ?_⟩
      cases hk : cmpI op i j with
      | false =>
        refine iteF (q _ _ (k2.tail.tail.flat ?_))
        rw [hk]
        exact .bl _
      | true =>
        refine iteT (hc C (_ :: _ :: τ) (_ :: _ :: vs) σ H2 k2 (congrArg (· + 2) l) _ fun v3 H3 k3 => ?_)
        have e3 := k3.int
        subst e3
        refine ⟨j, n, rfl, rfl, q _ _ (k3.tail.tail.tail.flat ?_)⟩
        rw [hk]
        exact .bl _
theorem vt_chain {op op' : CmpOp} {c : Expr} {i j n : Int} (ha : VE S ρ a (.im (.int i))) (hb : VE S ρ b (.im (.int j))) (hc : VE S ρ c (.im (.int n))) (o1 : isCmp op = true := by rfl) (o2 : isCmp op' = true := by rfl)
    (hm : lastMarks [op, op'] [b, c] = false := by with_unfolding_all rfl) : VT S ρ (.Compare a [op, op'] [b, c] pos) (cmpI op i j && cmpI op' j n) :=
  vt_of (t := tTest (tChain (rI0 fun i j => .bl (cmpI op i j)) (rI0 fun i j => .bl (cmpI op' i j)) (wE S a) (wE S b) (wE S c))) (fun X hX => pt_chain (cmp_int o1) (cmp_int o2) (wE_pe hX) (wE_pe hX) (wE_pe hX) hm) fun C τ vs σ H k l Q q => ha C τ vs σ H k l _ fun v1 H1 k1 =>
    hb C (_ :: τ) (some v1 :: vs) σ H1 k1 (congrArg (· + 1) l) _ fun v2 H2 k2 => by
      have e2 := k2.int
      have e1 := k2.tail.int
      subst e1 e2
      refine ⟨i, j, rfl, rfl, _, rfl, ?_⟩
      cases hk : cmpI op i j with
      | false =>
        refine iteF ⟨_, rfl, ?_⟩
        rw [hk] at q
        exact q _ k2.tail.tail
      | true =>
        refine iteT (hc C (_ :: _ :: τ) (_ :: _ :: vs) σ H2 k2 (congrArg (· + 2) l) _ fun v3 H3 k3 => ?_)
        have e3 := k3.int
        subst e3
        refine ⟨j, n, rfl, rfl, _, rfl, ?_⟩
        rw [hk] at q
        exact q _ k3.tail.tail.tail
/-! and, or, not, if -/
variable {c d : Bool} {rest : List Expr}
theorem ve_one {op : BoolOp} (h : VE S ρ e r) : VE S ρ (.BoolOp op [e] pos) r := ve_of (t := wE S e) (fun X hX => pe_one (wE_pe hX)) h
theorem ve_and (ha : VE S ρ a (.im (.bool c))) (hb : c = true → VE S ρ (.BoolOp .And (b :: rest) pos) (.im (.bool d))) : VE S ρ (.BoolOp .And (a :: b :: rest) pos) (.im (.bool (c && d))) :=
  ve_of (t := tAndV (wE S a) (wE S _)) (fun X hX => pe_and (wE_pe hX) (wE_pe hX)) fun C τ vs σ H k l Q q => ha C τ vs σ H k l _ fun v1 H1 k1 => by
    have e1 := k1.bl
    subst e1
    refine ⟨c, rfl, ?_⟩
    cases c with
    | false => exact iteF (q _ _ k1)
    | true => exact iteT (hb rfl C τ vs σ H1 k1.tail l Q q)
theorem ve_or (ha : VE S ρ a (.im (.bool c))) (hb : c = false → VE S ρ (.BoolOp .Or (b :: rest) pos) (.im (.bool d))) : VE S ρ (.BoolOp .Or (a :: b :: rest) pos) (.im (.bool (c || d))) :=
  ve_of (t := tOrV (wE S a) (wE S _)) (fun X hX => pe_or (wE_pe hX) (wE_pe hX)) fun C τ vs σ H k l Q q => ha C τ vs σ H k l _ fun v1 H1 k1 => by
    have e1 := k1.bl
    subst e1
    refine ⟨c, rfl, ?_⟩
    cases c with
    | true => exact iteT (q _ _ k1)
    | false => exact iteF (hb rfl C τ vs σ H1 k1.tail l Q q)
theorem ve_not (ha : VE S ρ a (.im (.bool c))) : VE S ρ (.UnaryOp .Not a pos) (.im (.bool (!c))) :=
  ve_of (t := tNotV (wE S a)) (fun X hX => pe_not (wE_pe hX)) fun C τ vs σ H k l Q q => ha C τ vs σ H k l _ fun v1 H1 k1 => by
    have e1 := k1.bl
    subst e1
    exact ⟨c, rfl, q _ _ (k1.tail.flat (.bl _))⟩
theorem vw_of {t : TT} (ht : ∀ X, S.Has X → PW X e t) (h : ET S.K t ρ c) : VW S ρ e c := fun C τ vs σ H k l Q q => ⟨t, ht, h C τ vs σ H k l Q q⟩
theorem VW.vt (h : VW S ρ e c) : VT S ρ e c := vt_of (t := wW S e) (fun X hX => (wW_pw hX).pt) h
theorem vw_and1 (h : VT S ρ a c) : VW S ρ (.BoolOp .And [a] pos) c := vw_of (t := wT S a) (fun X hX => pw_and1 (wT_pt hX)) h
theorem vw_or1 (h : VT S ρ a c) : VW S ρ (.BoolOp .Or [a] pos) c := vw_of (t := wT S a) (fun X hX => pw_or1 (wT_pt hX)) h
theorem vw_and (ha : VT S ρ a c) (hb : c = true → VW S ρ (.BoolOp .And (b :: rest) pos) d) : VW S ρ (.BoolOp .And (a :: b :: rest) pos) (c && d) :=
  vw_of (t := tAnd (wT S a) (wW S _)) (fun X hX => pw_and (wT_pt hX) (wW_pw hX)) fun C τ vs σ H k l Q q => ha C τ vs σ H k l _ fun H1 k1 => by
    cases c with
    | false => exact iteF (q _ k1)
    | true => exact iteT (hb rfl C τ vs σ H1 k1 l Q q)
theorem vw_or (ha : VT S ρ a c) (hb : c = false → VW S ρ (.BoolOp .Or (b :: rest) pos) d) : VW S ρ (.BoolOp .Or (a :: b :: rest) pos) (c || d) :=
  vw_of (t := tOr (wT S a) (wW S _)) (fun X hX => pw_or (wT_pt hX) (wW_pw hX)) fun C τ vs σ H k l Q q => ha C τ vs σ H k l _ fun H1 k1 => by
    cases c with
    | true => exact iteT (q _ k1)
    | false => exact iteF (hb rfl C τ vs σ H1 k1 l Q q)
theorem vt_not (ha : VT S ρ a c) : VT S ρ (.UnaryOp .Not a pos) (!c) :=
  vt_of (t := tNot (wT S a)) (fun X hX => pt_not (wT_pt hX)) fun C τ vs σ H k l Q q => ha C τ vs σ H k l _ fun H1 k1 => q _ k1
theorem ve_if {t : Expr} (ht : VT S ρ t c) (ha : c = true → VE S ρ a r) (hb : c = false → VE S ρ b r) : VE S ρ (.IfExp t a b pos) r :=
  ve_of (t := tIf (wT S t) (wE S a) (wE S b)) (fun X hX => pe_ifExp (wT_pt hX) (wE_pe hX) (wE_pe hX)) fun C τ vs σ H k l Q q => ht C τ vs σ H k l _ fun H1 k1 => by
    cases c with
    | true => exact iteT (ha rfl C τ vs σ H1 k1 l Q q)
    | false => exact iteF (hb rfl C τ vs σ H1 k1 l Q q)
/-! arguments, displays -/
theorem va_nil : VA S ρ [] [] := va_of (t := tNil) (fun X _ => pa_nil) fun C τ vs σ H k l Q q => q [] H rfl k
theorem va_cons {es : List Expr} {rs : List Sl} (h : VE S ρ e r) (hs : VA S ρ es rs) (hp : ∀ X : Cx, starEach (e :: es) X.env = (false, eval e X.env) :: starEach es X.env := by intro _; rfl) : VA S ρ (e :: es) (r :: rs) :=
  va_of (t := tCons (wE S e) (wA S es)) (fun X hX => pa_cons (wE_pe hX) (wA_pa hX) (hp X)) fun C τ vs σ H k l Q q => h C τ vs σ H k l _ fun v1 H1 k1 =>
    hs C (r :: τ) (some v1 :: vs) σ H1 k1 (congrArg (· + 1) l) _ fun ws H2 lw k2 => q (v1 :: ws) H2 (congrArg (· + 1) lw) (by
      rw [List.reverse_cons, List.append_assoc, List.reverse_cons, List.map_append, List.append_assoc]
      exact k2)
theorem Ok.rev {K : PySem.W.Frag} {C : Cz} {ds : List PyData} {ws : List V} {H : Hp} {l : List Sl} {os : List (Option V)} (k : Ok K C ((ds.map Sl.im).reverse ++ l) (ws.reverse.map some ++ os) H) (lw : ws.length = ds.length) :
    ∃ B G fp, OkB K C B G fp l os H ∧ DtA K B ws ds := by
  obtain ⟨B, G, fp, k⟩ := k
  rw [← List.map_reverse] at k
  obtain ⟨h1, h2⟩ := k.heads (by rw [List.length_reverse, List.length_reverse]; exact lw)
  have h3 := h1.rev
  rw [List.reverse_reverse, List.reverse_reverse] at h3
  exact ⟨B, G, fp, h2, h3⟩
theorem ve_tup {es : List Expr} {ds : List PyData} {j} (h : VA S ρ es (ds.map Sl.im)) (hl : ds.length ≤ 100000 := by walk_at "kd ar") : VE S ρ (.Tuple es j pos) (.im (.tuple ds)) :=
  ve_of (t := tTup (wA S es)) (fun X hX => pe_tup (wA_pa hX)) fun C τ vs σ H k l Q q => h C τ vs σ H k l _ fun ws H1 lw k1 => by
    rw [List.length_map] at lw
    refine ⟨Evl.sz_of (by omega), fun p hp => q _ _ ?_⟩
    obtain ⟨B, G, fp, k2, hd⟩ := k1.rev lw
    exact (k2.lay hp).put (.tup (.inl (.inl upd_same)) (hd.up (Ex.new (Ok.fresh k2 hp).1)))
theorem ve_lst {es : List Expr} {ds : List PyData} (h : VA S ρ es (ds.map Sl.im)) (hl : ds.length ≤ 100000 := by walk_at "kd ar") : VE S ρ (.List es pos) (.ow ds) :=
  ve_of (t := tLst (wA S es)) (fun X hX => pe_lst (wA_pa hX)) fun C τ vs σ H k l Q q => h C τ vs σ H k l _ fun ws H1 lw k1 => by
    rw [List.length_map] at lw
    refine ⟨Evl.sz_of (by omega), fun p hp => q _ _ ?_⟩
    obtain ⟨B, G, fp, k2, hd⟩ := k1.rev lw
    exact k2.putOwn hp hd
/-! subscripts -/
theorem ve_ix (ha : VE S ρ a s1) (hb : VE S ρ b s2) (ho : XD S s1 s2 s3 := by walk_at "kd xd") (hs : PlainIx b := by exact fun _ _ => rfl) : VE S ρ (.Subscript a b pos) s3 :=
  ve_of (t := tOp (wIx S) (wE S a) (wE S b)) (fun X hX => pe_ix (wIx_ix hX) (wE_pe hX) (wE_pe hX) hs) fun C τ vs σ H k l Q q => ha C τ vs σ H k l _ fun v1 H1 k1 =>
    hb C (s1 :: τ) (some v1 :: vs) σ H1 k1 (congrArg (· + 1) l) _ fun v2 H2 k2 => ho C _ _ v1 v2 H2 k2 Q q
/-! calls of built-ins -/
theorem ve_callB (id : String) {x : Str} {es : List Expr} {rs : List Sl} {p : Pos} (hm : S.mg x = none) (h : VA S ρ (e :: es) rs) (ho : CD S (.builtin id) rs s3 := by walk_at "kd cd") (hg : S.sc.names.lookup x = some .globalImplicit := by rfl) (hv : bootBuiltins x = some (.builtin id) := by decide +kernel)
    (hn : x ≠ "__name__" := by decide) (hdb : (x == ("__debug__" : Str)) = false := by decide)
    (he : ∀ X : Cx, starEach (e :: es) X.env = (false, eval e X.env) :: starEach es X.env := by intro _; rfl) (hpl : ∀ X : Cx, (backTo pos (starEach es X.env)).any (·.1) = false := by intro _; rfl) : VE S ρ (.Call (.Name x p) (e :: es) [] pos) s3 :=
  ve_of (t := tCB (wCall S (.builtin id)) (wA S (e :: es))) (fun X hX => pe_callB (wCall_call hX) (by show X.env.scope.names.lookup x = _; rw [hX.sc]; exact hg) (by rw [hX.mg]; exact hm) hv (wA_pa hX) hn hdb (he X) (hpl X)) fun C τ vs σ H k l Q q =>
    h C τ vs σ H k l _ fun ws H1 lw k1 => ho C _ _ ws H1 lw k1 Q q
theorem ve_callT (id : String) {x : Str} {es : List Expr} {rs : List Sl} {p : Pos} (hm : S.mg x = none) (h : VA S ρ (e :: es) rs) (ho : CD S (.type id) rs s3 := by walk_at "kd cd") (hg : S.sc.names.lookup x = some .globalImplicit := by rfl) (hv : bootBuiltins x = some (.type id) := by decide +kernel)
    (hn : x ≠ "__name__" := by decide) (hdb : (x == ("__debug__" : Str)) = false := by decide)
    (he : ∀ X : Cx, starEach (e :: es) X.env = (false, eval e X.env) :: starEach es X.env := by intro _; rfl) (hpl : ∀ X : Cx, (backTo pos (starEach es X.env)).any (·.1) = false := by intro _; rfl) : VE S ρ (.Call (.Name x p) (e :: es) [] pos) s3 :=
  ve_of (t := tCB (wCall S (.type id)) (wA S (e :: es))) (fun X hX => pe_callTy (wCall_call hX) (by show X.env.scope.names.lookup x = _; rw [hX.sc]; exact hg) (by rw [hX.mg]; exact hm) hv (wA_pa hX) hn hdb (he X) (hpl X)) fun C τ vs σ H k l Q q =>
    h C τ vs σ H k l _ fun ws H1 lw k1 => ho C _ _ ws H1 lw k1 Q q
end
end Kd

set_option Elab.async false
set_option linter.all false
set_option maxRecDepth 100000
namespace Kd
open PySem L2
open Evl (Ex ex_l ex_t ex_rd fresh_back)
/-! ### operators over ints -/
section
variable {S : Sh} {ρ : List Sl} {i j : Int}
theorem od_I {f : Value → Value → Sem Value} {g : Int → Int → V} {d : PyData} (ho : ∀ X : Cx, OpR X f (rI0 g)) (hf : Fl (g i j) d) : OD S f (.im (.int i)) (.im (.int j)) (.im d) := fun C l os v1 v2 H k Q q => by
  have e2 := k.int
  have e1 := k.tail.int
  subst e1 e2
  exact ⟨_, fun X _ => ho X, i, j, rfl, rfl, q _ _ (k.tail.tail.flat hf)⟩
theorem od_IC {f : Value → Value → Sem Value} {c : Int → Int → Prop} {g : Int → Int → V} {d : PyData} (ho : ∀ X : Cx, OpR X f (rI c g)) (hf : Fl (g i j) d) (hc : c i j) : OD S f (.im (.int i)) (.im (.int j)) (.im d) := fun C l os v1 v2 H k Q q => by
  have e2 := k.int
  have e1 := k.tail.int
  subst e1 e2
  exact ⟨_, fun X _ => ho X, i, j, rfl, rfl, hc, q _ _ (k.tail.tail.flat hf)⟩
theorem od_add : OD S (binaryOp .Add) (.im (.int i)) (.im (.int j)) (.im (.int (i + j))) := od_I (fun _ => op_add) (.int _)
theorem od_sub : OD S (binaryOp .Sub) (.im (.int i)) (.im (.int j)) (.im (.int (i - j))) := od_I (fun _ => op_sub) (.int _)
theorem od_mulL (h : -(2 ^ 64) < i ∧ i < 2 ^ 64) : OD S (binaryOp .Mult) (.im (.int i)) (.im (.int j)) (.im (.int (i * j))) := od_IC (fun _ => op_mul) (.int _) (.inl h)
theorem od_mulR (h : -(2 ^ 64) < j ∧ j < 2 ^ 64) : OD S (binaryOp .Mult) (.im (.int i)) (.im (.int j)) (.im (.int (i * j))) := od_IC (fun _ => op_mul) (.int _) (.inr h)
theorem od_mulW (h : CMulW i j) : OD S (binaryOp .Mult) (.im (.int i)) (.im (.int j)) (.im (.int (i * j))) := od_IC (fun _ => op_mulW) (.int _) h
theorem od_fdiv (h : 0 < j ∧ j < 1073741824) : OD S (binaryOp .FloorDiv) (.im (.int i)) (.im (.int j)) (.im (.int (i / j))) := od_IC (fun _ => op_fdivN) (by rw [Int.fdiv_eq_ediv_of_nonneg i (by omega)]; exact .int _) ⟨by omega, by omega⟩
theorem od_mod (h : 0 < j) : OD S (binaryOp .Mod) (.im (.int i)) (.im (.int j)) (.im (.int (i % j))) := od_IC (fun _ => op_modN) (by rw [Int.fmod_eq_emod_of_nonneg i (by omega)]; exact .int _) (by omega)
theorem od_pow (h : 0 ≤ j ∧ j ≤ 1000000 ∧ i.natAbs < 2 ^ 64) : OD S (binaryOp .Pow) (.im (.int i)) (.im (.int j)) (.im (.int (i ^ j.toNat))) := od_IC (fun _ => op_pow) (.int _) h
theorem od_shl (h : 0 ≤ j ∧ j ≤ 1000000 ∧ i.natAbs < 2 ^ 64) : OD S (binaryOp .LShift) (.im (.int i)) (.im (.int j)) (.im (.int (i * 2 ^ j.toNat))) := od_IC (fun _ => op_shl) (.int _) h
theorem od_shr (h : 0 ≤ j) : OD S (binaryOp .RShift) (.im (.int i)) (.im (.int j)) (.im (.int (i / 2 ^ j.toNat))) := od_IC (fun _ => op_shr) (.int _) h
theorem ve_neg {a : Expr} {pos : Pos} (h : VE S ρ a (.im (.int i))) : VE S ρ (.UnaryOp .USub a pos) (.im (.int (-i))) :=
  ve_of (t := tUn (rU fun i => .int (-i)) (wE S a)) (fun X hX => pe_un un_neg (wE_pe hX)) fun C τ vs σ H k l Q q => h C τ vs σ H k l _ fun v1 H1 k1 => by
    have e1 := k1.int
    subst e1
    exact ⟨i, rfl, q _ _ (k1.tail.flat (.int _))⟩
/-! equality of data -/
theorem od_eq {s1 s2 : Sl} {d1 d2 : PyData} (h1 : s1.dat d1) (h2 : s2.dat d2) (n1 : noDict d1 = true) (n2 : noDict d2 = true) (p1 : SeqAt.shaped d1 = true) (p2 : SeqAt.shaped d2 = true) : OD S (compareOp .Eq) s1 s2 (.im (.bool (PyData.eqv d1 d2))) := fun C l os v1 v2 H k Q q => by
  refine ⟨rEqD S.K, fun X hX => ?_, d1, d2, Dt.dp _ _ n1 (k.tail.dt h1), Dt.dp _ _ n2 (k.dt h2), p1, p2, q _ _ (k.tail.tail.flat (.bl _))⟩
  rw [← hX.K]
  exact op_eqD hX.room.units
theorem od_ne {s1 s2 : Sl} {d1 d2 : PyData} (h1 : s1.dat d1) (h2 : s2.dat d2) (n1 : noDict d1 = true) (n2 : noDict d2 = true) (p1 : SeqAt.shaped d1 = true) (p2 : SeqAt.shaped d2 = true) : OD S (compareOp .NotEq) s1 s2 (.im (.bool (!PyData.eqv d1 d2))) := fun C l os v1 v2 H k Q q => by
  refine ⟨rNeD S.K, fun X hX => ?_, d1, d2, Dt.dp _ _ n1 (k.tail.dt h1), Dt.dp _ _ n2 (k.dt h2), p1, p2, q _ _ (k.tail.tail.flat (.bl _))⟩
  rw [← hX.K]
  exact op_neD hX.room.units
theorem od_eqS {x y : Str} : OD S (compareOp .Eq) (.im (.str x)) (.im (.str y)) (.im (.bool (decide (x = y)))) := fun C l os v1 v2 H k Q q => by
  have e2 := k.str
  have e1 := k.tail.str
  subst e1 e2
  refine ⟨rEq, fun X _ => op_eq, rfl, q _ _ (k.tail.tail.flat ?_)⟩
  rw [show decide (V.str x = V.str y) = decide (x = y) by simp]
  exact .bl _
theorem od_neS {x y : Str} : OD S (compareOp .NotEq) (.im (.str x)) (.im (.str y)) (.im (.bool (!decide (x = y)))) := fun C l os v1 v2 H k Q q => by
  have e2 := k.str
  have e1 := k.tail.str
  subst e1 e2
  refine ⟨rNe, fun X _ => op_ne, rfl, q _ _ (k.tail.tail.flat ?_)⟩
  rw [show decide (V.str x = V.str y) = decide (x = y) by simp]
  exact .bl _
/-! is None, is True -/
@[reducible] def isNone : PyData → Bool
  | .none => true
  | _ => false
theorem od_isN {s1 : Sl} {d : PyData} (h1 : s1.dat d) : OD S (compareOp .Is) s1 (.im .none) (.im (.bool (isNone d))) := fun C l os v1 v2 H k Q q => by
  have k2 := k.dt (d := .none) rfl
  cases k2
  have k1 := k.tail.dt h1
  refine ⟨_, fun X _ => op_isN, rfl, q _ _ (k.tail.tail.flat ?_)⟩
  have e : decide (v1 = V.non) = isNone d := by cases k1 <;> rfl
  rw [e]
  exact .bl _
theorem od_notN {s1 : Sl} {d : PyData} (h1 : s1.dat d) : OD S (compareOp .IsNot) s1 (.im .none) (.im (.bool (!isNone d))) := fun C l os v1 v2 H k Q q => by
  have k2 := k.dt (d := .none) rfl
  cases k2
  have k1 := k.tail.dt h1
  refine ⟨_, fun X _ => op_notN, rfl, q _ _ (k.tail.tail.flat ?_)⟩
  have e : decide (v1 = V.non) = isNone d := by cases k1 <;> rfl
  rw [e]
  exact .bl _
end
/-! ### built-ins over data -/
def lenD : PyData → Option Nat
  | .str x => some x.length
  | .list ds => some ds.length
  | .tuple ds => some ds.length
  | _ => none
def tyD : PyData → String
  | .none => "NoneType"
  | .bool _ => "bool"
  | .int _ => "int"
  | .str _ => "str"
  | .list _ => "list"
  | .tuple _ => "tuple"
  | .dict _ => "dict"
theorem Dt.ty {K : PySem.W.Frag} {H : Hp} {v : V} {d : PyData} (h : Dt K H v d) : TyX K H v (.type (tyD d)) := by
  cases h with
  | non => exact .base .non
  | bl b => exact .base (.bl b)
  | int i => exact .base (.int i)
  | str x => exact .base (.str x)
  | lst hs _ =>
    rcases hs with (h | ⟨o, h⟩) | ⟨o, its, n, e, c, _⟩
    · exact .base (.lst h)
    · exact .base (.frz h)
    · exact .kList e c
  | tup hs _ =>
    rcases hs with (h | ⟨o, h⟩) | ⟨o, its, n, e, c, _⟩
    · exact .base (.tup h)
    · exact .fTuple h
    · exact .kTuple e c
  | dct hs _ => exact .fDict hs
section
variable {S : Sh} {ρ : List Sl} {s1 s2 : Sl} {d d1 d2 : PyData}
theorem cd_of1 {f : Value} {r : List V → Hp → VK → Prop} {s3 : Sl} (hr : ∀ X, S.Has X → CallR X f r)
    (h : ∀ (C : Cz) (l : List Sl) (os : List (Option V)) (v : V) (H : Hp), Ok S.K C (s1 :: l) (some v :: os) H → ∀ Q : VK, (∀ v H', Ok S.K C (s3 :: l) (some v :: os) H' → Q v H') → r [v] H Q) : CD S f [s1] s3 := fun C l os ws H lw k Q q => by
  match ws, lw with
  | [v], _ => exact ⟨r, hr, h C l os v H k Q q⟩
theorem cd_of2 {f : Value} {r : List V → Hp → VK → Prop} {s3 : Sl} (hr : ∀ X, S.Has X → CallR X f r)
    (h : ∀ (C : Cz) (l : List Sl) (os : List (Option V)) (v w : V) (H : Hp), Ok S.K C (s2 :: s1 :: l) (some w :: some v :: os) H → ∀ Q : VK, (∀ v H', Ok S.K C (s3 :: l) (some v :: os) H' → Q v H') → r [v, w] H Q) : CD S f [s1, s2] s3 := fun C l os ws H lw k Q q => by
  match ws, lw with
  | [v, w], _ => exact ⟨r, hr, h C l os v w H k Q q⟩
theorem cd_len {n : Nat} (h1 : s1.dat d) (hl : lenD d = some n) (hz : n ≤ 100000) : CD S (.builtin "len") [s1] (.im (.int n)) :=
  cd_of1 (r := fun xs H Q => ∃ x n, xs = [x] ∧ LenV S.K x H n ∧ Q (.int n) H) (fun X hX => by rw [← hX.K]; exact call_len) fun C l os v H k Q q => by
    refine ⟨v, n, rfl, ?_, q _ _ (k.tail.flat (.int _))⟩
    have kd := k.dt h1
    cases kd with
    | str x =>
      cases hl
      exact ⟨Evl.sz_of hz, rfl⟩
    | lst hs ha =>
      cases hl
      exact .inl ⟨_, hs, ha.len.symm⟩
    | tup hs ha =>
      cases hl
      exact .inr ⟨_, hs, ha.len.symm⟩
    | _ => cases hl
theorem cd_abs {i : Int} : CD S (.builtin "abs") [.im (.int i)] (.im (.int (if i < 0 then -i else i))) :=
  cd_of1 (fun X _ => call_abs) fun C l os v H k Q q => by
    have e := k.int
    subst e
    exact ⟨i, rfl, q _ _ (k.tail.flat (.int _))⟩
theorem cd_max2 {i j : Int} : CD S (.builtin "max") [.im (.int i), .im (.int j)] (.im (.int (if j > i then j else i))) :=
  cd_of2 (fun X hX => call_max2 hX.calm) fun C l os v w H k Q q => by
    have e := k.int
    have e1 := k.tail.int
    subst e e1
    exact ⟨i, j, rfl, q _ _ (k.tail.tail.flat (.int _))⟩
theorem cd_min2 {i j : Int} : CD S (.builtin "min") [.im (.int i), .im (.int j)] (.im (.int (if j < i then j else i))) :=
  cd_of2 (fun X hX => call_min2 hX.calm) fun C l os v w H k Q q => by
    have e := k.int
    have e1 := k.tail.int
    subst e e1
    exact ⟨i, j, rfl, q _ _ (k.tail.tail.flat (.int _))⟩
theorem cd_sum {ns : List Int} (h1 : s1.dat (.list (ns.map .int))) : CD S (.builtin "sum") [s1] (.im (.int ns.sum)) :=
  cd_of1 (r := rSum S.K) (fun X hX => by rw [← hX.K]; exact cr_sum hX.calm) fun C l os v H k Q q => by
    have kd := k.dt h1
    cases kd with
    | lst hs ha =>
      have e := ha.ints
      subst e
      exact ⟨_, ns, rfl, hs, q _ _ (k.tail.flat (.int _))⟩
theorem cd_all {ns : List Bool} (h1 : s1.dat (.list (ns.map .bool))) : CD S (.builtin "all") [s1] (.im (.bool (ns.all id))) :=
  cd_of1 (r := rAll S.K) (fun X hX => by rw [← hX.K]; exact cr_all hX.calm) fun C l os v H k Q q => by
    have kd := k.dt h1
    cases kd with
    | lst hs ha =>
      have e := ha.bools
      subst e
      exact ⟨_, ns, rfl, hs, q _ _ (k.tail.flat (.bl _))⟩
theorem cd_any {ns : List Bool} (h1 : s1.dat (.list (ns.map .bool))) : CD S (.builtin "any") [s1] (.im (.bool (ns.any id))) :=
  cd_of1 (r := rAny S.K) (fun X hX => by rw [← hX.K]; exact cr_any hX.calm) fun C l os v H k Q q => by
    have kd := k.dt h1
    cases kd with
    | lst hs ha =>
      have e := ha.bools
      subst e
      exact ⟨_, ns, rfl, hs, q _ _ (k.tail.flat (.bl _))⟩
/-- tuple(xs), tuple(t): the items as data of the base -/
theorem items_of {K : PySem.W.Frag} {C : Cz} {l : List Sl} {os : List (Option V)} {v : V} {H : Hp} {ds : List PyData} (k : Ok K C (s1 :: l) (some v :: os) H) (h1 : s1 = .im (.list ds) ∨ s1 = .al ds ∨ s1 = .ow ds) :
    ∃ B G fp p xs, OkB K C B G fp l os H ∧ v = .ref p ∧ SqL K H p xs ∧ DtA K B xs ds := by
  have fin : Ok K C (.al ds :: l) (some v :: os) H → ∃ B G fp p xs, OkB K C B G fp l os H ∧ v = .ref p ∧ SqL K H p xs ∧ DtA K B xs ds := fun k => by
    obtain ⟨B, G, fp, k⟩ := k
    obtain ⟨f, g, _, ⟨_, p, xs, e1, h1, z⟩, k2⟩ := k.tail
    cases e1
    exact ⟨B, G, g, p, xs, k2, rfl, .inl (.inl (k2.h _ _ h1)), z⟩
  rcases h1 with rfl | rfl | rfl
  · obtain ⟨B, G, fp, k2, hd⟩ := k.head
    cases hd with
    | lst hs ha => exact ⟨B, G, fp, _, _, k2, rfl, ex_l k2.bh hs, ha⟩
  · exact fin k
  · exact fin k.toAl
theorem cd_tuple {ds : List PyData} (h1 : s1 = .im (.list ds) ∨ s1 = .al ds ∨ s1 = .ow ds) : CD S (.type "tuple") [s1] (.im (.tuple ds)) :=
  cd_of1 (r := fun xs H Q => ∃ p ys, xs = [.ref p] ∧ ((SqL S.K H p ys ∧ ∀ l, H l = none → Q (.ref l) (upd H l (.tup ys))) ∨ (SqT S.K H p ys ∧ Q (.ref p) H))) (fun X hX => by rw [← hX.K]; exact call_tuple_of) fun C l os v H k Q q => by
    obtain ⟨B, G, fp, p, xs, k2, rfl, hs, hd⟩ := items_of k h1
    refine ⟨p, xs, rfl, .inl ⟨hs, fun t ht => q _ _ ?_⟩⟩
    exact (k2.lay ht).put (.tup (.inl (.inl upd_same)) (hd.up (Ex.new (Ok.fresh k2 ht).1)))
theorem cd_list {ds : List PyData} (h1 : s1 = .im (.list ds) ∨ s1 = .al ds ∨ s1 = .ow ds ∨ s1 = .im (.tuple ds)) : CD S (.type "list") [s1] (.ow ds) :=
  cd_of1 (r := fun xs H Q => ∃ p ys, xs = [.ref p] ∧ (SqL S.K H p ys ∨ SqT S.K H p ys) ∧ ∀ l, H l = none → Q (.ref l) (upd H l (.lst ys))) (fun X hX => by rw [← hX.K]; exact call_list_of) fun C l os v H k Q q => by
    rcases h1 with h1 | h1 | h1 | rfl
    · obtain ⟨B, G, fp, p, xs, k2, rfl, hs, hd⟩ := items_of k (.inl h1)
      exact ⟨p, xs, rfl, .inl hs, fun t ht => q _ _ (k2.putOwn ht hd)⟩
    · obtain ⟨B, G, fp, p, xs, k2, rfl, hs, hd⟩ := items_of k (.inr (.inl h1))
      exact ⟨p, xs, rfl, .inl hs, fun t ht => q _ _ (k2.putOwn ht hd)⟩
    · obtain ⟨B, G, fp, p, xs, k2, rfl, hs, hd⟩ := items_of k (.inr (.inr h1))
      exact ⟨p, xs, rfl, .inl hs, fun t ht => q _ _ (k2.putOwn ht hd)⟩
    · obtain ⟨B, G, fp, k2, hd⟩ := k.head
      cases hd with
      | tup hs ha => exact ⟨_, _, rfl, .inr (ex_t k2.bh hs), fun t ht => q _ _ (k2.putOwn ht ha)⟩
/-- isinstance(x, T), T a built-in class by its name -/
theorem ve_isi (T : String) {a : Expr} {y : Str} {b : Bool} {p p2 pos : Pos} (hm : S.mg "isinstance" = none) (hm2 : S.mg y = none) (ha : VE S ρ a s1) (h1 : s1.dat d := by rfl) (hv2 : bootBuiltins y = some (.type T) := by decide +kernel) (hk : kitB (tyD d) T = some b := by walk_at "kd ty") (hg : S.sc.names.lookup ("isinstance" : Str) = some .globalImplicit := by rfl) (hg2 : S.sc.names.lookup y = some .globalImplicit := by rfl)
    (hn2 : y ≠ "__name__" := by decide) (hd2 : (y == ("__debug__" : Str)) = false := by decide)
    (he : ∀ X : Cx, starEach [a, .Name y p2] X.env = (false, eval a X.env) :: starEach [.Name y p2] X.env := by intro _; rfl) :
    VE S ρ (.Call (.Name "isinstance" p) [a, .Name y p2] [] pos) (.im (.bool b)) :=
  ve_of (t := tCB (rIsi S.K) (tCons (wE S a) (tCons (tC (.ty T)) tNil))) (fun X hX => pe_callB (by rw [← hX.K]; exact call_isi) (by show X.env.scope.names.lookup _ = _; rw [hX.sc]; exact hg) (by rw [hX.mg]; exact hm) (by decide +kernel)
      (pa_cons (wE_pe hX) (pa_cons (pe_bltn (by show X.env.scope.names.lookup _ = _; rw [hX.sc]; exact hg2) (by rw [hX.mg]; exact hm2) hv2 rfl hn2 hd2) pa_nil) (he X)) (by decide) (by decide) (he X)) fun C τ vs σ H k l Q q => ha C τ vs σ H k l _ fun v1 H1 k1 =>
    ⟨v1, .ty T, .type (tyD d), .type T, b, rfl, .ty T, (k1.dt h1).ty, kit_ty hk, q _ _ (k1.tail.flat (.bl _))⟩
/-! ### subscripts over data -/
theorem DtA.atI {K : PySem.W.Frag} {H : Hp} {vs : List V} {ds : List PyData} {i : Int} {d : PyData} (h : DtA K H vs ds) (e : L2.atI ds i = some d) : ∃ v, L2.atI vs i = some v ∧ Dt K H v d := by
  unfold L2.atI at e ⊢
  rw [h.len]
  cases q : ixN ds.length i with
  | none => rw [q] at e; cases e
  | some j =>
    rw [q] at e
    exact h.get e
theorem xd_tup {ds : List PyData} {i : Int} (e : L2.atI ds i = some d) : XD S (.im (.tuple ds)) (.im (.int i)) (.im d) := fun C l os v1 v2 H k Q q => by
  have e2 := k.int
  subst e2
  obtain ⟨B, G, fp, k2, hd⟩ := k.tail.head
  cases hd with
  | tup hs ha =>
    obtain ⟨v, ev, hv⟩ := ha.atI e
    exact ⟨rIxT S.K, fun X hX => by rw [← hX.K]; exact ix_tup, _, _, i, v, rfl, rfl, ex_t k2.bh hs, ev, q _ _ (k2.put hv)⟩
theorem xd_lst {ds : List PyData} {i : Int} (h1 : s1 = .im (.list ds) ∨ s1 = .al ds ∨ s1 = .ow ds) (e : L2.atI ds i = some d) : XD S s1 (.im (.int i)) (.im d) := fun C l os v1 v2 H k Q q => by
  have e2 := k.int
  subst e2
  obtain ⟨B, G, fp, p, xs, k2, rfl, hs, hd⟩ := items_of k.tail h1
  obtain ⟨v, ev, hv⟩ := hd.atI e
  exact ⟨rIxL S.K, fun X hX => by rw [← hX.K]; exact ix_list, _, _, i, v, rfl, rfl, hs, ev, q _ _ (k2.put hv)⟩
end
/-! ### what a def gives -/
inductive Oc where
  | ret (d : PyData)
  | exc (c : Str)
def spG (K : PySem.W.Frag) (mg : Str → Option Value) (G : List PyData → Oc → Prop) : Sp := fun vs H Q E => ∃ B ds o, G ds o ∧ Ex B H ∧ DtA K B vs ds ∧ match o with
  | .ret d => ∀ v H' B', Ex B B' → Ex B' H' → Ex H H' → (∀ a x, B' a = some x → B a = some x ∨ H a = none) → Dt K B' v d → Q v H'
  | .exc c => ∀ H' cv, Ex H H' → mg c = some cv → E cv none H'
/-- a def by its name in the module: what it gives, the level -/
def Fn (M : Md) (k : Nat) (x : Str) (G : List PyData → Oc → Prop) : Prop :=
  ∃ f fd ps, FnOk M.P M.w M.K M.mg M.base (L2N.CX M.P M.w) k f fd ps (spG M.K M.mg G) ∧ M.mg x = some (.ref f) ∧ PySem.W.keepIn M.K (.ref f) = true ∧ Binds M.K fd ps []
theorem OkB.back {K : PySem.W.Frag} {C : Cz} {B B' G H H' : Hp} {fp : List Addr} {l : List Sl} {os : List (Option V)} (k : OkB K C B G fp l os H) (b : Ex B B') (h : Ex B' H') (e : Ex H H') (n : ∀ a x, B' a = some x → B a = some x ∨ H a = none) : ∃ G', OkB K C B' G' fp l os H' := by
  -- what views know: what they knew, and the new base
  obtain ⟨G', g1, g2, g3, g4⟩ : ∃ G' : Hp, Ex G G' ∧ Ex B' G' ∧ Ex G' H' ∧ ∀ p ∈ fp, G p = none → G' p = none := by
    refine ⟨fun a => match G a with | some x => some x | none => B' a, fun a x q => ?_, fun a x q => ?_, fun a x q => ?_, fun p hp q => ?_⟩
    · show (match G a with | some x => some x | none => B' a) = some x
      rw [q]
    · show (match G a with | some x => some x | none => B' a) = some x
      cases z : G a with
      | none => exact q
      | some y =>
        have h1 := e _ _ (k.h _ _ z)
        rw [h _ _ q] at h1
        exact h1.symm
    · have q' : (match G a with | some x => some x | none => B' a) = some x := q
      cases z : G a with
      | none => rw [z] at q'; exact h _ _ q'
      | some y => rw [z] at q'; cases q'; exact e _ _ (k.h _ _ z)
    · show (match G p with | some x => some x | none => B' p) = none
      rw [q]
      cases z : B' p with
      | none => rfl
      | some x =>
        rcases n p x z with y | y
        · rw [(k.own p hp).1] at y
          cases y
        · exact absurd y (k.sls.al p hp)
  refine ⟨G', k.b.trans b, g2, g3, fun a o q w => e _ _ (k.e a o q w), fun a x q => ?_, fun a q => k.dom a (fresh_back e q), k.nd, fun p hp => ⟨?_, (k.own p hp).2⟩, k.sls.up b g1 g4 e⟩
  · rcases n a x q with z | z
    · exact k.n a x z
    · exact .inr (k.dom a z)
  · cases q : B' p with
    | none => rfl
    | some x =>
      rcases n p x q with z | z
      · rw [(k.own p hp).1] at z
        cases z
      · exact absurd z (k.sls.al p hp)
section
variable {S : Sh} {ρ : List Sl} {e : Expr} {pos : Pos}
theorem pass_S {X : Cx} (hX : S.Has X) : Passes (L2N.CX S.P S.w) X S.E := by
  rw [← hX.prog, ← hX.w]
  exact L2N.passes_call hX.tk fun _ _ _ _ h => h
theorem ve_call {x : Str} {es : List Expr} {k : Nat} {G : List PyData → Oc → Prop} {ds : List PyData} {d : PyData} {p : Pos} (hF : Fn S.toMd k x G) (ha : VA S ρ (e :: es) (ds.map Sl.im)) (hG : G ds (.ret d)) (hk : k ≤ S.k := by walk_at "kd lvl") (hg : S.sc.names.lookup x = some .globalImplicit := by rfl)
    (hdb : (x == ("__debug__" : Str)) = false := by decide)
    (he : ∀ X : Cx, starEach (e :: es) X.env = (false, eval e X.env) :: starEach es X.env := by intro _; rfl) (hpl : ∀ X : Cx, (backTo pos (starEach es X.env)).any (·.1) = false := by intro _; rfl) : VE S ρ (.Call (.Name x p) (e :: es) [] pos) (.im d) := by
  obtain ⟨f, fd, ps, F, hm, hkp, hb⟩ := hF
  refine ve_of (t := tCall (spG S.K S.mg G) [] S.E (wA S (e :: es))) (fun X hX => ?_) fun C τ vs σ H kk l Q q => ha C τ vs σ H kk l _ fun ws H1 lw k1 => ?_
  · refine pe_call (CX := L2N.CX S.P S.w) (k := k) (f := f) (fd := fd) (ps := ps) (ds := []) ?_ (hX.room.mono hk) (by show X.env.scope.names.lookup x = _; rw [hX.sc]; exact hg) (by rw [hX.mg]; exact hm) (by rw [hX.K]; exact hkp) (by rw [hX.K]; exact hb) .nil (pass_S hX) (wA_pa hX) hdb (he X) (hpl X)
    rw [hX.prog, hX.w, hX.K, hX.mg, hX.base]
    exact F
  · rw [List.length_map] at lw
    obtain ⟨B, G, fp, k2, hd⟩ := k1.rev lw
    refine ⟨B, ds, .ret d, hG, k2.bh, by rw [List.append_nil]; exact hd, fun v H' B' b h e n hv => q v H' ?_⟩
    obtain ⟨G', k3⟩ := k2.back b h e n
    exact k3.put hv
/-- an expression that raises -/
def VX (S : Sh) (ρ : List Sl) (e : Expr) (c : Str) : Prop := ∀ (C : Cz) (τ : List Sl) (vs σ : List (Option V)) (H : Hp), Ok S.K C (τ ++ ρ) (vs ++ σ) H → τ.length = vs.length →
  ∀ Q : VK, (∀ H' cv, Ok S.K C (τ ++ ρ) (vs ++ σ) H' → S.mg c = some cv → S.E cv none H') → wE S e σ H Q
theorem vx_call {x : Str} {es : List Expr} {k : Nat} {G : List PyData → Oc → Prop} {ds : List PyData} {c : Str} {p : Pos} (hF : Fn S.toMd k x G) (ha : VA S ρ (e :: es) (ds.map Sl.im)) (hG : G ds (.exc c)) (hk : k ≤ S.k := by walk_at "kd lvl") (hg : S.sc.names.lookup x = some .globalImplicit := by rfl)
    (hdb : (x == ("__debug__" : Str)) = false := by decide)
    (he : ∀ X : Cx, starEach (e :: es) X.env = (false, eval e X.env) :: starEach es X.env := by intro _; rfl) (hpl : ∀ X : Cx, (backTo pos (starEach es X.env)).any (·.1) = false := by intro _; rfl) : VX S ρ (.Call (.Name x p) (e :: es) [] pos) c := by
  obtain ⟨f, fd, ps, F, hm, hkp, hb⟩ := hF
  intro C τ vs σ H kk l Q q
  refine ⟨tCall (spG S.K S.mg G) [] S.E (wA S (e :: es)), fun X hX => ?_, ha C τ vs σ H kk l _ fun ws H1 lw k1 => ?_⟩
  · refine pe_call (CX := L2N.CX S.P S.w) (k := k) (f := f) (fd := fd) (ps := ps) (ds := []) ?_ (hX.room.mono hk) (by show X.env.scope.names.lookup x = _; rw [hX.sc]; exact hg) (by rw [hX.mg]; exact hm) (by rw [hX.K]; exact hkp) (by rw [hX.K]; exact hb) .nil (pass_S hX) (wA_pa hX) hdb (he X) (hpl X)
    rw [hX.prog, hX.w, hX.K, hX.mg, hX.base]
    exact F
  · rw [List.length_map] at lw
    obtain ⟨B, G, fp, k2, hd⟩ := k1.rev lw
    refine ⟨B, ds, .exc c, hG, k2.bh, by rw [List.append_nil]; exact hd, fun H' cv e hc => q H' cv ?_ hc⟩
    exact Ok.grow ⟨B, G, fp, k2⟩ e
end
end Kd

set_option Elab.async false
set_option linter.all false
set_option maxRecDepth 100000
namespace Kd
open PySem L2
open Evl (Ex ex_l ex_t ex_rd fresh_back)
/-! ### own lists that change -/
def noV : Sl → Bool
  | .vw _ => false
  | .al _ => false
  | .vr _ => false
  | _ => true
section
variable {K : PySem.W.Frag} {C : Cz} {B B' G G' H H' : Hp} {ρ : List Sl} {σ : List (Option V)} {s : Sl} {o : Option V} {fp : List Addr}
/-- no views: they know the base alone -/
theorem Sls.blind (h : Sls K C B G H ρ σ fp) (own : ∀ p ∈ fp, B p = none) (nv : ∀ s ∈ ρ, noV s = true) : Sls K C B B H ρ σ fp := by
  induction h with
  | nil => exact .nil
  | @cons s1 o1 f1 g1 _ _ h1 h2 ih =>
    refine .cons ?_ (ih (fun p hp => own p (List.mem_append_right _ hp)) fun s hs => nv s (List.mem_cons_of_mem _ hs))
    have n1 := nv s1 List.mem_cons_self
    cases s1 with
    | no => exact h1
    | im d => exact h1
    | vw d => cases n1
    | al ds => cases n1
    | ow ds => exact h1
    | yw ds =>
      obtain ⟨p, xs, e1, rfl, hn, hp, hd, _⟩ := h1
      exact ⟨p, xs, e1, rfl, hn, hp, hd, own p (by simp)⟩
    | rs R => exact h1
    | vr A => cases n1
    | og Z => exact h1
theorem OkB.blind (k : OkB K C B G fp ρ σ H) (nv : ∀ s ∈ ρ, noV s = true) : OkB K C B B fp ρ σ H :=
  ⟨k.b, Ex.refl _, k.bh, k.e, k.n, k.dom, k.nd, k.own, k.sls.blind (fun p hp => (k.own p hp).1) nv⟩
/-- the thing in slot i changes -/
theorem Sls.change {i : Nat} {p : Addr} {x : HO} {s2 : Sl} (h : Sls K C B G H ρ σ fp) (nd : fp.Nodup) (e : ρ[i]? = some s) (eo : σ[i]? = some o) (gp : G p = none) (old : ∀ f, SlOk K C B G H s o f → f = [p]) (new : SlOk K C B G (upd H p x) s2 o [p]) :
    Sls K C B G (upd H p x) (ρ.set i s2) σ fp := by
  induction h generalizing i with
  | nil => simp at e
  | @cons s1 o1 f1 g1 _ _ h1 h2 ih =>
    obtain ⟨n1, n2, n3⟩ := List.nodup_append.mp nd
    cases i with
    | zero =>
      simp at e eo
      subst e eo
      have ef := old f1 h1
      subst ef
      exact .cons new (h2.write (fun z => n3 p (by simp) p z rfl) gp)
    | succ i =>
      refine .cons ?_ (ih n2 (by simpa using e) (by simpa using eo))
      obtain ⟨o2, f2, e2, k2, z⟩ := h2.get (i := i) (by simpa using e)
      have e3 : some o = some o2 := by rw [← e2]; simpa using eo.symm
      cases e3
      have ef := old f2 k2
      subst ef
      have np : p ∉ f1 := fun y => n3 p y p (z p (by simp)) rfl
      exact h1.write np
theorem OkB.change {i : Nat} {ds : List PyData} (k : OkB K C B G fp ρ σ H) (nv : ∀ s ∈ ρ, noV s = true) (e : ρ[i]? = some (.ow ds)) :
    ∃ p xs, σ[i]? = some (some (.ref p)) ∧ H p = some (.lst xs) ∧ DtA K B xs ds ∧ ∀ xs' ds', DtA K B xs' ds' → Ok K C (ρ.set i (.ow ds')) σ (upd H p (.lst xs')) := by
  obtain ⟨o, f, e2, q, hf⟩ := k.sls.get e
  obtain ⟨p, xs, rfl, rfl, hn, hp, hd⟩ := q
  have k2 := k.blind nv
  have bp := (k.own p (hf p (by simp))).1
  refine ⟨p, xs, e2, hp, hd, fun xs' ds' hd' => ⟨B, B, fp, k2.b, k2.g, fun a x q => ?_, fun a x q w => ?_, k2.n, fun a q => ?_, k2.nd, k2.own, k2.sls.change k2.nd e e2 bp (fun f hf => ?_) ⟨p, xs', rfl, rfl, hn, upd_same, hd'⟩⟩⟩
  · rw [upd_ne (ne_of_none q bp)]
    exact k2.bh _ _ q
  · rw [upd_ne (ne_of_none q hn)]
    exact k2.e _ _ q w
  · by_cases hap : a = p
    · subst hap
      exact hn
    · rw [upd_ne hap] at q
      exact k2.dom a q
  · obtain ⟨p', xs', e1, rfl, _⟩ := hf
    cases e1
    rfl
/-- the list in slot i becomes data -/
theorem Sls.ice {i : Nat} {p : Addr} {xs : List V} {ds : List PyData} (h : Sls K C B G H ρ σ fp) (nd : fp.Nodup) (bp : B p = none) (hg : Ex G H) (hp : H p = some (.lst xs)) (hd : DtA K B xs ds) (e : ρ[i]? = some (.ow ds)) (eo : σ[i]? = some (some (.ref p))) :
    ∃ fp', Sls K C (upd B p (.lst xs)) (upd G p (.lst xs)) H (ρ.set i (.im (.list ds))) σ fp' ∧ fp'.Nodup ∧ p ∉ fp' ∧ ∀ q ∈ fp', q ∈ fp := by
  have eB : Ex B (upd B p (.lst xs)) := Ex.new bp
  have eG : Ex G (upd G p (.lst xs)) := Ex.over hg hp
  induction h generalizing i with
  | nil => simp at e
  | @cons s1 o1 f1 g1 _ _ h1 h2 ih =>
    obtain ⟨n1, n2, n3⟩ := List.nodup_append.mp nd
    cases i with
    | zero =>
      simp at e eo
      subst e eo
      obtain ⟨p', xs', e1, rfl, z⟩ := h1
      cases e1
      have np : p ∉ g1 := fun z => n3 p (by simp) p z rfl
      refine ⟨g1, .cons (f := []) ⟨rfl, _, rfl, .lst (.inl (.inl upd_same)) (hd.up eB)⟩ (h2.up eB eG (fun a ha q => ?_) (Ex.refl _)), n2, np, fun q hq => List.mem_append_right _ hq⟩
      rw [upd_ne (show a ≠ p from fun y => np (y ▸ ha))]
      exact q
    | succ i =>
      obtain ⟨fp', k1, k2, k3, k4⟩ := ih n2 (by simpa using e) (by simpa using eo)
      obtain ⟨o2, f2, e2, q2, z⟩ := h2.get (i := i) (by simpa using e)
      have e3 : some (some (V.ref p)) = some o2 := by rw [← e2]; simpa using eo.symm
      cases e3
      obtain ⟨p', xs', e1, rfl, _⟩ := q2
      cases e1
      have np : p ∉ f1 := fun y => n3 p y p (z p (by simp)) rfl
      refine ⟨f1 ++ fp', .cons (h1.up eB eG (fun a ha q => ?_) (Ex.refl _)) k1, List.nodup_append.mpr ⟨n1, k2, fun a ha b hb => n3 a ha b (k4 b hb)⟩, fun y => ?_, fun q hq => ?_⟩
      · rw [upd_ne (show a ≠ p from fun y => np (y ▸ ha))]
        exact q
      · rcases List.mem_append.mp y with y | y
        · exact np y
        · exact k3 y
      · rcases List.mem_append.mp hq with y | y
        · exact List.mem_append_left _ y
        · exact List.mem_append_right _ (k4 q y)
theorem Ok.ice {i : Nat} {ds : List PyData} (h : Ok K C ρ σ H) (e : ρ[i]? = some (.ow ds)) : Ok K C (ρ.set i (.im (.list ds))) σ H := by
  obtain ⟨B, G, fp, k⟩ := h
  obtain ⟨o, f, e2, q, hf⟩ := k.sls.get e
  obtain ⟨p, xs, rfl, rfl, hn, hp, hd⟩ := q
  have bp := (k.own p (hf p (by simp))).1
  obtain ⟨fp', k1, k2, k3, k4⟩ := k.sls.ice k.nd bp k.h hp hd e e2
  refine ⟨upd B p (.lst xs), upd G p (.lst xs), fp', k.b.trans (Ex.new bp), Ex.both k.g, Ex.put k.h hp, k.e, fun a x q => ?_, k.dom, k2, fun a ha => ?_, k1⟩
  · by_cases hap : a = p
    · subst hap
      exact .inr hn
    · rw [upd_ne hap] at q
      exact k.n a x q
  · have z := k.own a (k4 a ha)
    refine ⟨?_, z.2⟩
    rw [upd_ne (show a ≠ p from fun y => k3 (y ▸ ha))]
    exact z.1
end
/-! ### statements -/
structure Pst where
  nx : List Sl → Prop
  rt : Sl → List Sl → Prop
  bk : List Sl → Prop
  ct : List Sl → Prop
  ex : Str → Prop
structure Meet (S : Sh) (C : Cz) (τ : List Sl) (vs : List (Option V)) (D : Ends) (P : Pst) : Prop where
  nx : ∀ ρ σ H, P.nx ρ → Ok S.K C (τ ++ ρ) (vs ++ σ) H → D.nx σ H
  rt : ∀ r ρ v σ H, P.rt r ρ → Ok S.K C (r :: (τ ++ ρ)) (some v :: (vs ++ σ)) H → D.rt v H
  bk : ∀ ρ σ H, P.bk ρ → Ok S.K C (τ ++ ρ) (vs ++ σ) H → D.bk σ H
  ct : ∀ ρ σ H, P.ct ρ → Ok S.K C (τ ++ ρ) (vs ++ σ) H → D.ct σ H
  ex : ∀ c cv ρ σ H, P.ex c → S.mg c = some cv → Ok S.K C (τ ++ ρ) (vs ++ σ) H → S.E cv none H
def Tr (S : Sh) (t : TS) (ρ : List Sl) (P : Pst) : Prop := ∀ C τ vs σ H D, Ok S.K C (τ ++ ρ) (vs ++ σ) H → τ.length = vs.length → (∀ s ∈ τ, noV s = true) → Meet S C τ vs D P → t D σ H
def RS (S : Sh) (ρ : List Sl) (st : Stmt) (P : Pst) : Prop := Tr S (wS S st) ρ P
def RB (S : Sh) (ρ : List Sl) (sts : List Stmt) (P : Pst) : Prop := Tr S (wB S sts) ρ P
section
variable {S : Sh} {ρ : List Sl} {st : Stmt} {rest : List Stmt} {e : Expr} {pos : Pos} {r : Sl} {P : Pst}
theorem rs_of {t : TS} (ht : ∀ X, S.Has X → PS X st t) (h : Tr S t ρ P) : RS S ρ st P := fun C τ vs σ H D k l nv m => ⟨t, ht, h C τ vs σ H D k l nv m⟩
theorem rb_of {t : TS} (ht : ∀ X, S.Has X → PSs X rest t) (h : Tr S t ρ P) : RB S ρ rest P := fun C τ vs σ H D k l nv m => ⟨t, ht, h C τ vs σ H D k l nv m⟩
theorem rb_nil (h : P.nx ρ) : RB S ρ [] P := rb_of (t := tNext) (fun _ _ => pss_nil) fun C τ vs σ H D k l nv m => m.nx ρ σ H h k
theorem rb_one (h : RS S ρ st P) : RB S ρ [st] P := rb_of (t := wS S st) (fun X hX => pss_one (wS_ps hX)) h
theorem rb_cons (h : RS S ρ st { P with nx := fun ρ' => RB S ρ' rest P }) : RB S ρ (st :: rest) P := rb_of (t := tSeq (wS S st) (wB S rest)) (fun X hX => pss_cons (wS_ps hX) (wB_pss hX)) fun C τ vs σ H D k l nv m =>
  h C τ vs σ H { D with nx := wB S rest D } k l nv ⟨fun ρ' σ' H' q k' => q C τ vs σ' H' D k' l nv m, m.rt, m.bk, m.ct, m.ex⟩
/-- the list in slot i becomes data -/
theorem rb_ice (i : Nat) {ds : List PyData} (e : ρ[i]? = some (.ow ds)) (h : RB S (ρ.set i (.im (.list ds))) rest P) : RB S ρ rest P := fun C τ vs σ H D k l nv m => by
  have k2 := k.ice (off_get (τ := τ) e)
  rw [off_set] at k2
  exact h C τ vs σ H D k2 l nv m
theorem rs_ret (h : VE S ρ e r) (q : P.rt r ρ) : RS S ρ (.Return (some e) pos) P := rs_of (t := tRet (wE S e)) (fun X hX => ps_ret (wE_pe hX)) fun C τ vs σ H D k l nv m => h C τ vs σ H k l _ fun v H' k2 => m.rt r ρ v σ H' q k2
theorem rs_retN (q : P.rt (.im .none) ρ) : RS S ρ (.Return none pos) P := rs_of (t := tRetN) (fun X hX => ps_retN) fun C τ vs σ H D k l nv m => m.rt _ ρ _ σ H q (k.flat .non)
theorem rs_asg (i : Nat) {x : Str} {p : Pos} (h : VE S ρ e r) (q : P.nx (ρ.set i r)) (hi : S.N[i]? = some x := by rfl) (hnd : S.N.Nodup := by walk_at "kd nd") (hx : Loc S.sc x := by walk_at "kd loc") (hf : S.fa = true ∨ S.sc.names.lookup x = some .local := by first | exact .inl rfl | exact .inr rfl)
    (hs : ∀ X : Cx, X.env.scope = S.sc → swapsWith e (some (.Name x p)) pos.line X.env = pure false := by intro _ _; rfl) : RS S ρ (.Assign [.Name x p] e pos) P :=
  rs_of (t := tAsg (wE S e) (gName i)) (fun X hX => ps_set (by rw [hX.N]; exact hnd) (by rw [hX.N]; exact hi) (by rw [hX.sc]; exact hx) (wE_pe hX) (hs X hX.sc) (hf.elim (fun z => .inl (hX.fn z x)) fun z => .inr (by rw [hX.sc]; exact z)))
    fun C τ vs σ H D k l nv m => h C τ vs σ H k l _ fun v H' k2 => m.nx _ _ H' q (by
      have k3 := Ok.set (i := τ.length + i) k2
      rw [off_set, l, List.set_append_right _ _ (Nat.le_add_right _ _), Nat.add_sub_cancel_left] at k3
      exact k3)
theorem rs_expr (h : VE S ρ e r) (q : P.nx ρ) (hs : ∀ X : Cx, swapsWith e none pos.line X.env = pure false := by intro _; rfl) : RS S ρ (.Expr e pos) P :=
  rs_of (t := tDrop (wE S e)) (fun X hX => ps_expr (wE_pe hX) (hs X)) fun C τ vs σ H D k l nv m => h C τ vs σ H k l _ fun v H' k2 => m.nx ρ σ H' q k2.tail
theorem rs_exprX {c : Str} (h : VX S ρ e c) (q : P.ex c) (hs : ∀ X : Cx, swapsWith e none pos.line X.env = pure false := by intro _; rfl) : RS S ρ (.Expr e pos) P :=
  rs_of (t := tDrop (wE S e)) (fun X hX => ps_expr (wE_pe hX) (hs X)) fun C τ vs σ H D k l nv m => h C τ vs σ H k l _ fun H' cv k2 hc => m.ex c cv ρ σ H' q hc k2
theorem rs_retX {c : Str} (h : VX S ρ e c) (q : P.ex c) : RS S ρ (.Return (some e) pos) P :=
  rs_of (t := tRet (wE S e)) (fun X hX => ps_ret (wE_pe hX)) fun C τ vs σ H D k l nv m => h C τ vs σ H k l _ fun H' cv k2 hc => m.ex c cv ρ σ H' q hc k2
theorem rs_if {t : Expr} {c : Bool} {a b : List Stmt} (ht : VT S ρ t c) (ha : c = true → RB S ρ a P) (hb : c = false → RB S ρ b P) : RS S ρ (.If t a b pos) P :=
  rs_of (t := tIfS (wT S t) (wB S a) (wB S b)) (fun X hX => ps_if (wT_pt hX) (wB_pss hX) (wB_pss hX)) fun C τ vs σ H D k l nv m => ht C τ vs σ H k l _ fun H' k2 => by
    cases c with
    | true => exact iteT (ha rfl C τ vs σ H' D k2 l nv m)
    | false => exact iteF (hb rfl C τ vs σ H' D k2 l nv m)
theorem rs_pass (q : P.nx ρ) : RS S ρ (.Pass pos) P := rs_of (t := tNext) (fun X hX => ps_pass) fun C τ vs σ H D k l nv m => m.nx ρ σ H q k
theorem rs_continue (q : P.ct ρ) : RS S ρ (.Continue pos) P := rs_of (t := tCont) (fun X hX => ps_continue) fun C τ vs σ H D k l nv m => m.ct ρ σ H q k
theorem rs_break (q : P.bk ρ) : RS S ρ (.Break pos) P := rs_of (t := tBreak) (fun X hX => ps_break) fun C τ vs σ H D k l nv m => m.bk ρ σ H q k
/-- x.append(e), x an own list in slot i -/
theorem rs_app (i : Nat) {x : Str} {ds : List PyData} {d : PyData} {p1 p2 p3 : Pos} (h : VE S ρ e (.im d)) (q : P.nx (ρ.set i (.ow (ds ++ [d])))) (hz : ds.length < 100000 := by walk_at "kd ar") (hN : S.N[i]? = some x := by rfl) (hv : Vis S.sc x := by walk_at "kd vis") (nv : ρ.all noV = true := by rfl) (hr : ρ[i]? = some (.ow ds) := by rfl)
    (hd : (x == ("__debug__" : Str)) = false := by decide) (hcd : (x == ("__classdict__" : Str)) = false := by decide)
    (hfew : ∀ X : Cx, ((backTo p3 (starEach [e] X.env)).all (fun x => !x.1) && (backToKw p3 (keywordEach [] X.env)).all (fun x => x.1.isSome) && decide ([e].length + ([] : List Keyword).length + (if ([] : List Keyword).isEmpty then 0 else 1) < 30)) = true := by intro _; rfl)
    (hline : (p2.endLine == p3.line) = true := by rfl) (hse : ∀ X : Cx, starEach [e] X.env = (false, eval e X.env) :: starEach [] X.env := by intro _; rfl)
    (hs : ∀ X : Cx, swapsWith (.Call (.Attribute (.Name x p1) "append" p2) [e] [] p3) none pos.line X.env = pure false := by intro _; rfl) : RS S ρ (.Expr (.Call (.Attribute (.Name x p1) "append" p2) [e] [] p3) pos) P :=
  rs_of (t := tDrop (tBM S.K "list" rAppend (tVar i) (tCons (wE S e) tNil))) (fun X hX => ps_expr (by
      rw [← hX.K]
      exact pe_bm PySem.F.plainAttrs_list PySem.F.slot_list_append PySem.F.type_list_append mt_append (pe_var (by rw [hX.N]; exact hN) (by rw [hX.sc]; exact hv) hd hcd) (pa_cons (wE_pe hX) pa_nil (hse X)) rfl (hfew X) hline (hse X) rfl) (hs X)) fun C τ vs σ H D k l nvt m => by
    obtain ⟨v, ev, k1⟩ := k.alias (off_get (τ := τ) hr) (by intro z; cases z)
    have ev' := ev
    rw [l, List.getElem?_append_right (Nat.le_add_right _ _), Nat.add_sub_cancel_left] at ev
    refine ⟨v, ev, ?_, h C (_ :: τ) (some v :: vs) σ H k1 (congrArg (· + 1) l) _ fun y H1 k2 => ?_⟩
    · have kd := k1.dt (d := .list ds) rfl
      cases kd with
      | lst hs _ => exact .inl ⟨rfl, _, hs⟩
    · have k2' : Ok S.K C (.im d :: .al ds :: (τ ++ ρ)) (some y :: some v :: (vs ++ σ)) H1 := k2
      obtain ⟨B, G, fp, k3, hy⟩ := k2'.drop2.head
      obtain ⟨p, xs, e1, hp, hd, fin⟩ := k3.change (by
        intro s hs
        rcases List.mem_append.mp hs with z | z
        · exact nvt s z
        · exact List.all_eq_true.mp nv s z) (off_get (τ := τ) hr)
      rw [e1] at ev'
      cases ev'
      refine ⟨p, xs, y, rfl, rfl, hp, Evl.sz_lt (by rw [hd.len]; exact hz), m.nx _ σ _ q ?_⟩
      have k4 := fin (xs ++ [y]) (ds ++ [d]) (hd.app (.cons hy .nil))
      rw [off_set] at k4
      exact k4
/-! ### targets -/
def wG (S : Sh) (tg : Expr) : TG := fun v σ H Q => ∃ g, (∀ X, S.Has X → PG X tg g) ∧ g v σ H Q
theorem wG_pg {X : Cx} {tg : Expr} (h : S.Has X) : PG X tg (wG S tg) := ⟨fun pins s σ H v u Q I r ⟨_, hg, q⟩ => (hg X h).run pins s σ H v u Q I r q⟩
def wGs (S : Sh) (tgs : List Expr) : TGs := fun v σ H Q => ∃ g, (∀ X, S.Has X → PGs X tgs g) ∧ g v σ H Q
theorem wGs_pgs {X : Cx} {tgs : List Expr} (h : S.Has X) : PGs X tgs (wGs S tgs) := ⟨fun pins s σ H v u Q I r ⟨_, hg, q⟩ => (hg X h).run pins s σ H v u Q I r q⟩
/-- a datum is bound to a target: the slots ix -/
def GD (S : Sh) (ρ : List Sl) (tg : Expr) (d : PyData) (ρ' : List Sl) (ix : List Nat) : Prop := ∀ (C : Cz) (τ : List Sl) (vs σ : List (Option V)) (H : Hp) (v : V), Ok S.K C (.im d :: (τ ++ ρ)) (some v :: (vs ++ σ)) H → τ.length = vs.length →
  ∀ Q : St → Hp → Prop, (∀ σ' H', (∀ ws, (∀ i ∈ ix, i ∈ ws) → wipe σ' ws = wipe σ ws) → Ok S.K C (τ ++ ρ') (vs ++ σ') H' → Q σ' H') → wG S tg v σ H Q
def GDs (S : Sh) (ρ : List Sl) (tgs : List Expr) (ds : List PyData) (ρ' : List Sl) (ix : List Nat) : Prop := ∀ (C : Cz) (τ : List Sl) (vs σ : List (Option V)) (H : Hp) (us : List V), us.length = ds.length → Ok S.K C (ds.map Sl.im ++ (τ ++ ρ)) (us.map some ++ (vs ++ σ)) H → τ.length = vs.length →
  ∀ Q : St → Hp → Prop, (∀ σ' H', (∀ ws, (∀ i ∈ ix, i ∈ ws) → wipe σ' ws = wipe σ ws) → Ok S.K C (τ ++ ρ') (vs ++ σ') H' → Q σ' H') → wGs S tgs us σ H Q
theorem wipe_set (σ : St) (i : Nat) (o : Option V) : ∀ ws : List Nat, i ∈ ws → wipe (σ.set i o) ws = wipe σ ws
  | [], h => by cases h
  | w :: ws, h => by
    show (wipe (σ.set i o) ws).set w none = (wipe σ ws).set w none
    by_cases hw : i ∈ ws
    · rw [wipe_set σ i o ws hw]
    · have e : i = w := by
        rcases List.mem_cons.mp h with z | z
        · exact z
        · exact absurd z hw
      subst e
      have h2 : ∀ (l : St) (ws : List Nat), i ∉ ws → (wipe (l.set i o) ws) = (wipe l ws).set i o := by
        intro l ws
        induction ws with
        | nil => intro _; rfl
        | cons a as ih =>
          intro hn
          show (wipe (l.set i o) as).set a none = ((wipe l as).set a none).set i o
          rw [ih (fun z => hn (List.mem_cons_of_mem _ z)), List.set_comm _ _ (fun z => hn (by rw [z]; exact List.mem_cons_self))]
      rw [h2 σ ws hw, List.set_set]
theorem gd_name (i : Nat) {x : Str} {d : PyData} (hi : S.N[i]? = some x := by rfl) (hnd : S.N.Nodup := by walk_at "kd nd") (hx : Loc S.sc x := by walk_at "kd loc") (hf : S.fa = true ∨ S.sc.names.lookup x = some .local := by first | exact .inl rfl | exact .inr rfl) : GD S ρ (.Name x pos) d (ρ.set i (.im d)) [i] := fun C τ vs σ H v k l Q q =>
  ⟨gName i, fun X hX => pg_name (by rw [hX.N]; exact hnd) (by rw [hX.N]; exact hi) (by rw [hX.sc]; exact hx) (hf.elim (fun z => .inl (hX.fn z x)) fun z => .inr (by rw [hX.sc]; exact z)), q _ _ (fun ws hw => wipe_set σ i _ ws (hw i (by simp))) (by
    have k3 := Ok.set (i := τ.length + i) k
    rw [off_set, l, List.set_append_right _ _ (Nat.le_add_right _ _), Nat.add_sub_cancel_left] at k3
    exact k3)⟩
theorem gds_nil : GDs S ρ [] [] ρ [] := fun C τ vs σ H us lu k l Q q => by
  have e : us = [] := List.eq_nil_of_length_eq_zero lu
  subst e
  exact ⟨gNil, fun X hX => pgs_nil, rfl, q σ H (fun _ _ => rfl) k⟩
theorem gds_cons {tg : Expr} {tgs : List Expr} {d : PyData} {ds : List PyData} {ρ1 ρ2 : List Sl} {ix iy : List Nat} (h1 : GD S ρ tg d ρ1 ix) (h2 : GDs S ρ1 tgs ds ρ2 iy)
    (hs : ∀ X : Cx, (assignEach (tg :: tgs) X.env).map (·.2) = assign tg X.env :: (assignEach tgs X.env).map (·.2) := by intro _; rfl) : GDs S ρ (tg :: tgs) (d :: ds) ρ2 (ix ++ iy) := fun C τ vs σ H us lu k l Q q => by
  match us, lu with
  | u :: us, lu =>
    refine ⟨gCons (wG S tg) (wGs S tgs), fun X hX => pgs_cons (wG_pg hX) (wGs_pgs hX) (hs X), u, us, rfl, ?_⟩
    have lu' : us.length = ds.length := Nat.succ.inj lu
    -- the others wait
    have k' : Ok S.K C (.im d :: ((ds.map Sl.im ++ τ) ++ ρ)) (some u :: ((us.map some ++ vs) ++ σ)) H := by
      rw [List.append_assoc, List.append_assoc]
      exact k
    refine h1 C (ds.map Sl.im ++ τ) (us.map some ++ vs) σ H u k' (by rw [List.length_append, List.length_append, List.length_map, List.length_map, l, lu']) _ fun σ1 H1 w1 k1 => ?_
    rw [List.append_assoc, List.append_assoc] at k1
    exact h2 C τ vs σ1 H1 us lu' k1 l Q fun σ2 H2 w2 k2 => q σ2 H2 (fun ws hw => (w2 ws fun i hi => hw i (List.mem_append_right _ hi)).trans (w1 ws fun i hi => hw i (List.mem_append_left _ hi))) k2
theorem gd_tup {tgs : List Expr} {ds : List PyData} {ρ1 : List Sl} {ix : List Nat} {j : Nat} (h : GDs S ρ tgs ds ρ1 ix) (hn : ∀ X : Cx, (assignEach tgs X.env).length = ds.length := by intro _; rfl) (hst : ∀ X : Cx, (assignEach tgs X.env).findIdx? (·.1) = none := by intro _; rfl) :
    GD S ρ (.Tuple tgs j pos) (.tuple ds) ρ1 ix := fun C τ vs σ H v k l Q q => by
  obtain ⟨B, G, fp, k2, hd⟩ := k.head
  cases hd with
  | @tup a xs _ hs ha =>
    refine ⟨gTup S.K ds.length (wGs S tgs), fun X hX => by rw [← hX.K]; exact pg_tup hX.calm (wGs_pgs hX) (hn X) (hst X), a, xs, rfl, ex_t k2.bh hs, ha.len, ?_⟩
    refine h C τ vs σ H xs ha.len ?_ l Q q
    have all : ∀ (xs : List V) (ds : List PyData), DtA S.K B xs ds → OkB S.K C B G fp (ds.map Sl.im ++ (τ ++ ρ)) (xs.map some ++ (vs ++ σ)) H := by
      intro xs
      induction xs with
      | nil => intro ds h; cases h; exact k2
      | cons x xs ih =>
        intro ds h
        cases h with
        | cons h1 h2 => exact (ih _ h2).cons0 ⟨rfl, x, rfl, h1⟩
    exact ⟨B, G, fp, all xs ds ha⟩
/-! ### loops -/
/-- what a for walks, by data: n items, the i-th of data d i -/
def IW (S : Sh) (ρ : List Sl) (tg it : Expr) (n : Nat) (d : Nat → PyData) : Prop := ∀ (C : Cz) (τ : List Sl) (vs σ : List (Option V)) (H : Hp), Ok S.K C (τ ++ ρ) (vs ++ σ) H → τ.length = vs.length →
  ∀ R : It → Hp → Prop, (∀ (J : It) (H1 : Hp) (zs : List Sl) (oz : List (Option V)), zs.length = oz.length → (∀ s ∈ zs, noV s = true) → Ok S.K C (zs ++ (τ ++ ρ)) (oz ++ (vs ++ σ)) H1 →
    (∀ i l os H2, Ok S.K C (zs ++ l) (oz ++ os) H2 → (i < n → J.go i H2 ∧ ∀ x H3, J.yld i H2 x H3 → Ok S.K C (.im (d i) :: (zs ++ l)) (some x :: (oz ++ os)) H3) ∧ (n ≤ i → J.stop i H2)) → R J H1) →
    ∃ wi : TI, (∀ X, S.Has X → PI X tg it wi) ∧ wi σ H R
def wI (S : Sh) (tg it : Expr) : TI := fun σ H R => ∃ wi : TI, (∀ X, S.Has X → PI X tg it wi) ∧ wi σ H R
theorem wI_pi {X : Cx} {tg it : Expr} (h : S.Has X) : PI X tg it (wI S tg it) := ⟨fun pins s σ H R I ⟨_, hw, q⟩ => (hw X h).run pins s σ H R I q⟩
theorem rs_for {tg it : Expr} {body : List Stmt} {n : Nat} {d : Nat → PyData} (hw : IW S ρ tg it n d) (Inv : Nat → List Sl → Prop) (h0 : Inv 0 ρ)
    (hs : ∀ i ρ1, i < n → Inv i ρ1 → ∃ ρ2 ix, GD S ρ1 tg (d i) ρ2 ix ∧ RB S ρ2 body { P with nx := Inv (i + 1), ct := Inv (i + 1), bk := P.nx }) (hd : ∀ ρ1, Inv n ρ1 → P.nx ρ1)
    (hfs : ∀ (X : Cx) x, foldedSetIterable it X.env x = pure x := by intro _ _; rfl) : RS S ρ (.For tg it body [] pos) P :=
  rs_of (t := tFor (wI S tg it) (wG S tg) (wB S body)) (fun X hX => ps_for hX.own hX.calm (wI_pi hX) (wG_pg hX) (wB_pss hX) (hfs X)) fun C τ vs σ H D k l nv m => hw C τ vs σ H k l _ fun J H1 zs oz lz nz k1 turn => by
    refine ⟨fun i mm σ' H' => mm = n - i ∧ i ≤ n ∧ ∃ ρ', Inv i ρ' ∧ Ok S.K C (zs ++ (τ ++ ρ')) (oz ++ (vs ++ σ')) H', ⟨n, by omega, Nat.zero_le _, ρ, h0, k1⟩, ?_⟩
    rintro i mm σ' H' ⟨rfl, hi, ρ', hI, k2⟩
    obtain ⟨t1, t2⟩ := turn i _ _ H' k2
    by_cases hlt : i < n
    · obtain ⟨g1, g2⟩ := t1 hlt
      obtain ⟨ρ2, ix, hg, hb⟩ := hs i ρ' hlt hI
      refine .inr ⟨g1, fun σ2 H2 => ∃ ρ2, Inv (i + 1) ρ2 ∧ Ok S.K C (zs ++ (τ ++ ρ2)) (oz ++ (vs ++ σ2)) H2, fun σ2 H2 ⟨ρ3, hI3, k3⟩ => ⟨n - (i + 1), by omega, rfl, hlt, ρ3, hI3, k3⟩, fun x H3 y => ?_⟩
      have k4 := g2 x H3 y
      rw [← List.append_assoc zs, ← List.append_assoc oz] at k4
      refine hg C (zs ++ τ) (oz ++ vs) σ' H3 x k4 (by rw [List.length_append, List.length_append, l, lz]) _ fun σ4 H4 _ k5 => ?_
      have drop : ∀ {ρ5 : List Sl} {σ5 : St} {H5 : Hp}, Ok S.K C ((zs ++ τ) ++ ρ5) ((oz ++ vs) ++ σ5) H5 → Ok S.K C (τ ++ ρ5) (vs ++ σ5) H5 := by
        intro ρ5 σ5 H5 k6
        rw [List.append_assoc, List.append_assoc] at k6
        clear k5 k4 turn k2 k1 t1 t2 g2 nz
        induction zs generalizing oz with
        | nil =>
          have e : oz = [] := List.eq_nil_of_length_eq_zero lz.symm
          subst e
          exact k6
        | cons z zs ih =>
          match oz, lz with
          | o :: oz, lz => exact ih oz (Nat.succ.inj lz) k6.tail
      refine hb C (zs ++ τ) (oz ++ vs) σ4 H4 _ k5 (by rw [List.length_append, List.length_append, l, lz]) (fun s hs => (List.mem_append.mp hs).elim (nz s) (nv s)) ⟨fun ρ5 σ5 H5 q k6 => ⟨ρ5, q, by rw [← List.append_assoc, ← List.append_assoc]; exact k6⟩, fun r ρ5 v σ5 H5 q k6 => ?_, fun ρ5 σ5 H5 q k6 => m.nx ρ5 σ5 H5 q (drop k6), fun ρ5 σ5 H5 q k6 => ⟨ρ5, q, by rw [← List.append_assoc, ← List.append_assoc]; exact k6⟩, fun c cv ρ5 σ5 H5 q hc k6 => m.ex c cv ρ5 σ5 H5 q hc (drop k6)⟩
      have drop1 : Ok S.K C (r :: (τ ++ ρ5)) (some v :: (vs ++ σ5)) H5 := by
        rw [List.append_assoc, List.append_assoc] at k6
        clear k5 k4 turn k2 k1 t1 t2 g2 nz drop
        induction zs generalizing oz with
        | nil =>
          have e : oz = [] := List.eq_nil_of_length_eq_zero lz.symm
          subst e
          exact k6
        | cons z zs ih =>
          match oz, lz with
          | o :: oz, lz => exact ih oz (Nat.succ.inj lz) k6.drop2
      exact m.rt r ρ5 v σ5 H5 q drop1
    · have e : i = n := by omega
      subst e
      refine .inl ⟨t2 (Nat.le_refl _), m.nx ρ' σ' H' (hd ρ' hI) ?_⟩
      clear turn k1 t1 t2 nz
      induction zs generalizing oz with
      | nil =>
        have e : oz = [] := List.eq_nil_of_length_eq_zero lz.symm
        subst e
        exact k2
      | cons z zs ih =>
        match oz, lz with
        | o :: oz, lz => exact ih oz (Nat.succ.inj lz) k2.tail
theorem rs_while {t : Expr} {body : List Stmt} (Inv : Nat → List Sl → Prop) (m0 : Nat) (h0 : Inv m0 ρ)
    (hs : ∀ mm ρ1, Inv mm ρ1 → ∃ c, VT S ρ1 t c ∧ (c = true → RB S ρ1 body { P with nx := fun ρ2 => ∃ m2, m2 < mm ∧ Inv m2 ρ2, ct := fun ρ2 => ∃ m2, m2 < mm ∧ Inv m2 ρ2, bk := P.nx }) ∧ (c = false → P.nx ρ1)) : RS S ρ (.While t body [] pos) P :=
  rs_of (t := tWhile (wT S t) (wB S body)) (fun X hX => ps_while hX.own (wT_pt hX) (wB_pss hX)) fun C τ vs σ H D k l nv m => by
    refine ⟨fun mm σ' H' => ∃ ρ', Inv mm ρ' ∧ Ok S.K C (τ ++ ρ') (vs ++ σ') H', ⟨m0, ρ, h0, k⟩, ?_⟩
    rintro mm σ' H' ⟨ρ', hI, k2⟩
    obtain ⟨c, ht, h1, h2⟩ := hs mm ρ' hI
    refine ht C τ vs σ' H' k2 l _ fun H1 k3 => ?_
    cases c with
    | true =>
      refine iteT ⟨fun σ2 H2 => ∃ ρ2, (∃ m2, m2 < mm ∧ Inv m2 ρ2) ∧ Ok S.K C (τ ++ ρ2) (vs ++ σ2) H2, fun σ2 H2 ⟨ρ2, ⟨m2, hm, hI2⟩, k4⟩ => ⟨m2, hm, ρ2, hI2, k4⟩, ?_⟩
      exact h1 rfl C τ vs σ' H1 _ k3 l nv ⟨fun ρ5 σ5 H5 q k6 => ⟨ρ5, q, k6⟩, m.rt, fun ρ5 σ5 H5 q k6 => m.nx ρ5 σ5 H5 q k6, fun ρ5 σ5 H5 q k6 => ⟨ρ5, q, k6⟩, m.ex⟩
    | false => exact iteF (m.nx ρ' σ' H1 (h2 rfl) k3)
end
end Kd

set_option Elab.async false
set_option linter.all false
set_option maxRecDepth 100000
namespace Kd
open PySem L2
open Evl (Ex ex_l ex_t ex_rd fresh_back)
/-! ### the order of the slots -/
section
variable {K : PySem.W.Frag} {C : Cz} {B B' G G' H H' : Hp} {ρ : List Sl} {σ : List (Option V)} {s a b : Sl} {o x y : Option V} {fp : List Addr}
theorem Ok.swap (h : Ok K C (a :: b :: ρ) (x :: y :: σ) H) : Ok K C (b :: a :: ρ) (y :: x :: σ) H := by
  obtain ⟨B, G, fp, k⟩ := h
  obtain ⟨b1, g1, h1, e, n, dom, nd, own, sls⟩ := k
  cases sls with
  | @cons _ _ f1 _ _ _ q1 q2 =>
    cases q2 with
    | @cons _ _ f2 g _ _ q3 q4 =>
      have pm : (f2 ++ (f1 ++ g)).Perm (f1 ++ (f2 ++ g)) := by
        rw [← List.append_assoc, ← List.append_assoc]
        exact List.Perm.append_right g List.perm_append_comm
      exact ⟨B, G, f2 ++ (f1 ++ g), b1, g1, h1, e, n, dom, pm.nodup_iff.mpr nd, fun p hp => own p (pm.mem_iff.mp hp), .cons q3 (.cons q1 q4)⟩
/-- under a head that stays -/
theorem Ok.under {l l' : List Sl} {os os' : List (Option V)} (f : ∀ {B G : Hp} {g : List Addr}, Sls K C B G H l os g → ∃ g', Sls K C B G H l' os' g' ∧ g'.Perm g) (h : Ok K C l os H) : Ok K C l' os' H := by
  obtain ⟨B, G, fp, k⟩ := h
  obtain ⟨g', s1, pm⟩ := f k.sls
  exact ⟨B, G, g', k.b, k.g, k.h, k.e, k.n, k.dom, pm.nodup_iff.mpr k.nd, fun p hp => k.own p (pm.mem_iff.mp hp), s1⟩
theorem Sls.rotIn {zs l : List Sl} {oz os : List (Option V)} (lz : zs.length = oz.length) {g : List Addr} (h : Sls K C B G H (s :: (zs ++ l)) (o :: (oz ++ os)) g) : ∃ g', Sls K C B G H (zs ++ (s :: l)) (oz ++ (o :: os)) g' ∧ g'.Perm g := by
  induction zs generalizing oz g with
  | nil =>
    have e : oz = [] := List.eq_nil_of_length_eq_zero lz.symm
    subst e
    exact ⟨g, h, List.Perm.refl _⟩
  | cons z zs ih =>
    match oz, lz with
    | w :: oz, lz =>
      cases h with
      | @cons _ _ f1 _ _ _ q1 q2 =>
        cases q2 with
        | @cons _ _ f2 g2 _ _ q3 q4 =>
          obtain ⟨g', k1, k2⟩ := ih (Nat.succ.inj lz) (.cons q1 q4)
          refine ⟨f2 ++ g', .cons q3 k1, (List.Perm.append_left f2 k2).trans ?_⟩
          rw [← List.append_assoc, ← List.append_assoc]
          exact List.Perm.append_right g2 List.perm_append_comm
theorem Sls.rotOut {zs l : List Sl} {oz os : List (Option V)} (lz : zs.length = oz.length) {g : List Addr} (h : Sls K C B G H (zs ++ (s :: l)) (oz ++ (o :: os)) g) : ∃ g', Sls K C B G H (s :: (zs ++ l)) (o :: (oz ++ os)) g' ∧ g'.Perm g := by
  induction zs generalizing oz g with
  | nil =>
    have e : oz = [] := List.eq_nil_of_length_eq_zero lz.symm
    subst e
    exact ⟨g, h, List.Perm.refl _⟩
  | cons z zs ih =>
    match oz, lz with
    | w :: oz, lz =>
      cases h with
      | @cons _ _ f1 g1 _ _ q1 q2 =>
        obtain ⟨g', k1, k2⟩ := ih (Nat.succ.inj lz) q2
        cases k1 with
        | @cons _ _ f2 g2 _ _ q3 q4 =>
          refine ⟨f2 ++ (f1 ++ g2), .cons q3 (.cons q1 q4), ?_⟩
          have e1 : (f2 ++ (f1 ++ g2)).Perm (f1 ++ (f2 ++ g2)) := by
            rw [← List.append_assoc, ← List.append_assoc]
            exact List.Perm.append_right g2 List.perm_append_comm
          exact e1.trans (List.Perm.append_left f1 k2)
theorem Ok.rotIn {zs l : List Sl} {oz os : List (Option V)} (lz : zs.length = oz.length) (h : Ok K C (s :: (zs ++ l)) (o :: (oz ++ os)) H) : Ok K C (zs ++ (s :: l)) (oz ++ (o :: os)) H := h.under fun q => q.rotIn lz
theorem Ok.rotOut {zs l : List Sl} {oz os : List (Option V)} (lz : zs.length = oz.length) (h : Ok K C (zs ++ (s :: l)) (oz ++ (o :: os)) H) : Ok K C (s :: (zs ++ l)) (o :: (oz ++ os)) H := h.under fun q => q.rotOut lz
/-- a slot of which nothing is known may hold anything -/
theorem Sls.repl {σ' : List (Option V)} {g : List Addr} (h : Sls K C B G H ρ σ g) (l : σ'.length = σ.length) (e : ∀ j : Nat, σ'[j]? = σ[j]? ∨ ρ[j]? = some Sl.no) : Sls K C B G H ρ σ' g := by
  induction h generalizing σ' with
  | nil =>
    have e : σ' = [] := List.eq_nil_of_length_eq_zero l
    subst e
    exact .nil
  | @cons s1 o1 f1 g1 _ _ h1 h2 ih =>
    match σ', l with
    | o2 :: σ', l =>
      refine .cons ?_ (ih (Nat.succ.inj l) fun j => by simpa using e (j + 1))
      rcases e 0 with z | z
      · have z' : o2 = o1 := by simpa using z
        subst z'
        exact h1
      · have z' : s1 = .no := by simpa using z
        subst z'
        exact h1
theorem Ok.repl {σ' : List (Option V)} (h : Ok K C ρ σ H) (l : σ'.length = σ.length) (e : ∀ j : Nat, σ'[j]? = σ[j]? ∨ ρ[j]? = some Sl.no) : Ok K C ρ σ' H := h.under fun q => ⟨_, q.repl l e, List.Perm.refl _⟩
end
/-! ### what a for walks -/
section
variable {S : Sh} {ρ : List Sl} {tg e e2 : Expr} {pos : Pos}
theorem iw_range1 {n : Int} {p : Pos} (hm : S.mg "range" = none) (ha : VE S ρ e (.im (.int n))) (hn : n ≤ 4611686018427387903 := by walk_at "kd ar") (hl : -4611686018427387904 ≤ n := by walk_at "kd ar") (hg : S.sc.names.lookup ("range" : Str) = some .globalImplicit := by rfl)
    (hse : ∀ X : Cx, starEach [e] X.env = (false, eval e X.env) :: starEach [] X.env := by intro _; rfl) : IW S ρ tg (.Call (.Name "range" p) [e] [] pos) n.toNat (fun i => .int i) := fun C τ vs σ H k l R q =>
  ⟨iRng1 (tCons (wE S e) tNil), fun X hX => pi_range1 (by show X.env.scope.names.lookup _ = _; rw [hX.sc]; exact hg) (by rw [hX.mg]; exact hm) (pa_cons (wE_pe hX) pa_nil (hse X)) (hse X), ha C τ vs σ H k l _ fun v H1 k1 => by
    have e1 := k1.int
    subst e1
    refine ⟨n, rfl, by omega, by omega, q (Itr 0 n.toNat) H1 [] [] rfl (fun _ z => nomatch z) k1.tail fun i l os H2 k2 => ⟨fun hi => ⟨hi, fun x H3 y => ?_⟩, fun hi => hi⟩⟩
    obtain ⟨e1, e2⟩ := y
    subst e1 e2
    rw [show (0 : Int) + (i : Int) = i by omega]
    exact k2.flat (.int _)⟩
theorem iw_range2 {a b : Int} {p : Pos} (hm : S.mg "range" = none) (ha : VE S ρ e (.im (.int a))) (hb : VE S ρ e2 (.im (.int b))) (h1 : a ≤ 4611686018427387903 := by walk_at "kd ar") (h2 : -4611686018427387904 ≤ a := by walk_at "kd ar") (h3 : b ≤ 4611686018427387903 := by walk_at "kd ar") (h4 : -4611686018427387904 ≤ b := by walk_at "kd ar") (hg : S.sc.names.lookup ("range" : Str) = some .globalImplicit := by rfl)
    (hse : ∀ X : Cx, starEach [e, e2] X.env = (false, eval e X.env) :: starEach [e2] X.env := by intro _; rfl) (hse2 : ∀ X : Cx, starEach [e2] X.env = (false, eval e2 X.env) :: starEach [] X.env := by intro _; rfl) :
    IW S ρ tg (.Call (.Name "range" p) [e, e2] [] pos) (b - a).toNat (fun i => .int (a + i)) := fun C τ vs σ H k l R q =>
  ⟨iRng2 (tCons (wE S e) (tCons (wE S e2) tNil)), fun X hX => pi_range2 (by show X.env.scope.names.lookup _ = _; rw [hX.sc]; exact hg) (by rw [hX.mg]; exact hm) (pa_cons (wE_pe hX) (pa_cons (wE_pe hX) pa_nil (hse2 X)) (hse X)) (by rw [hse X, hse2 X]; rfl) (hse2 X), ha C τ vs σ H k l _ fun v H1 k1 => hb C (_ :: τ) (some v :: vs) σ H1 k1 (congrArg (· + 1) l) _ fun w H2 k2 => by
    have e2 := k2.int
    have e1 := k2.tail.int
    subst e1 e2
    refine ⟨a, b, rfl, by omega, q (Itr a (b - a).toNat) H2 [] [] rfl (fun _ z => nomatch z) k2.tail.tail fun i l os H2 k2 => ⟨fun hi => ⟨hi, fun x H3 y => ?_⟩, fun hi => hi⟩⟩
    obtain ⟨e1, e2⟩ := y
    subst e1 e2
    exact k2.flat (.int _)⟩
theorem getD_some {α : Type} {l : List α} {i : Nat} {d x : α} (h : l[i]? = some x) : l.getD i d = x := by rw [List.getD_eq_getElem?_getD, h]; rfl
theorem iw_list {ds : List PyData} (ha : VE S ρ e (.im (.list ds))) : IW S ρ tg e ds.length (fun i => ds.getD i .none) := fun C τ vs σ H k l R q =>
  ⟨iList S.K (wE S e), fun X hX => by rw [← hX.K]; exact pi_list (wE_pe hX), ha C τ vs σ H k l _ fun v H1 k1 => by
    obtain ⟨B, G, fp, k2, hd⟩ := k1.head
    cases hd with
    | @lst a xs _ hs hx =>
      refine ⟨a, rfl, ⟨xs, ex_l k2.bh hs⟩, q (Itl S.K a) H1 [_] [_] rfl (fun s hs => by rw [List.mem_singleton] at hs; subst hs; rfl) k1 fun i l os H2 k2 => ?_⟩
      obtain ⟨B, G, fp, k3⟩ := k2
      obtain ⟨f, g, _, ⟨_, u, e1, hd⟩, _⟩ := k3.tail
      cases e1
      cases hd with
      | @lst _ xs _ hs hx =>
        have hs2 := ex_l k3.bh hs
        refine ⟨fun hi => ?_, fun hi => ⟨xs, hs2, by rw [hx.len]; exact hi⟩⟩
        have hi' : i < xs.length := by rw [hx.len]; exact hi
        refine ⟨⟨xs, xs[i], hs2, List.getElem?_eq_getElem hi'⟩, fun x H3 y => ?_⟩
        obtain ⟨e1, y⟩ := y
        subst e1
        obtain ⟨d, h1, h2⟩ := hx.getV (y xs hs2)
        dsimp only
        rw [getD_some h1]
        exact k3.put h2⟩
theorem iw_tup {ds : List PyData} (ha : VE S ρ e (.im (.tuple ds))) : IW S ρ tg e ds.length (fun i => ds.getD i .none) := fun C τ vs σ H k l R q =>
  ⟨iTup S.K (wE S e), fun X hX => by rw [← hX.K]; exact pi_tup (wE_pe hX), ha C τ vs σ H k l _ fun v H1 k1 => by
    obtain ⟨B, G, fp, k2, hd⟩ := k1.head
    cases hd with
    | @tup a xs _ hs hx =>
      refine ⟨a, rfl, ⟨xs, ex_t k2.bh hs⟩, q (Itt S.K a) H1 [_] [_] rfl (fun s hs => by rw [List.mem_singleton] at hs; subst hs; rfl) k1 fun i l os H2 k2 => ?_⟩
      obtain ⟨B, G, fp, k3⟩ := k2
      obtain ⟨f, g, _, ⟨_, u, e1, hd⟩, _⟩ := k3.tail
      cases e1
      cases hd with
      | @tup _ xs _ hs hx =>
        have hs2 := ex_t k3.bh hs
        refine ⟨fun hi => ?_, fun hi => ⟨xs, hs2, by rw [hx.len]; exact hi⟩⟩
        have hi' : i < xs.length := by rw [hx.len]; exact hi
        refine ⟨⟨xs, xs[i], hs2, List.getElem?_eq_getElem hi'⟩, fun x H3 y => ?_⟩
        obtain ⟨e1, y⟩ := y
        subst e1
        obtain ⟨d, h1, h2⟩ := hx.getV (y xs hs2)
        dsimp only
        rw [getD_some h1]
        exact k3.put h2⟩
theorem iw_str {x : Str} (ha : VE S ρ e (.im (.str x))) : IW S ρ tg e x.cps.size (fun i => .str ⟨#[x.cps.toList.getD i 0]⟩) := fun C τ vs σ H k l R q =>
  ⟨iStr (wE S e), fun X hX => pi_str (wE_pe hX), ha C τ vs σ H k l _ fun v H1 k1 => by
    have e1 := k1.str
    subst e1
    refine ⟨x, rfl, q (Its x) H1 [] [] rfl (fun _ z => nomatch z) k1.tail fun i l os H2 k2 => ⟨fun hi => ⟨hi, fun x H3 y => ?_⟩, fun hi => hi⟩⟩
    obtain ⟨e1, c, e2, e3⟩ := y
    subst e1 e3
    have e4 : x.cps.toList.getD i 0 = c := getD_some (by rw [Array.getElem?_toList]; exact e2)
    dsimp only
    rw [e4]
    exact k2.flat (.str _)⟩
/-- two things of the base on top -/
theorem Ok.two {K : PySem.W.Frag} {C : Cz} {l : List Sl} {os : List (Option V)} {v w : V} {H : Hp} {d1 d2 : PyData} (k : Ok K C (.im d2 :: .im d1 :: l) (some w :: some v :: os) H) :
    ∃ B G fp, OkB K C B G fp (.im d2 :: .im d1 :: l) (some w :: some v :: os) H ∧ Dt K B v d1 ∧ Dt K B w d2 := by
  obtain ⟨B, G, fp, k⟩ := k
  obtain ⟨f, g, _, ⟨_, u, e1, hd⟩, k2⟩ := k.tail
  obtain ⟨f2, g2, _, ⟨_, u2, e2, hd2⟩, k3⟩ := k2.tail
  cases e1
  cases e2
  exact ⟨B, G, fp, k, hd2, hd⟩
theorem OkB.pair {K : PySem.W.Frag} {C : Cz} {B G : Hp} {fp : List Addr} {l : List Sl} {os : List (Option V)} {x y : V} {H : Hp} {d1 d2 : PyData} {T : Addr} (k : OkB K C B G fp l os H) (hT : H T = none) (h1 : Dt K B x d1) (h2 : Dt K B y d2) :
    Ok K C (.im (.tuple [d1, d2]) :: l) (some (.ref T) :: os) (upd H T (.tup [x, y])) :=
  (k.lay hT).put (.tup (.inl (.inl upd_same)) ((DtA.cons h1 (.cons h2 .nil)).up (Ex.new (Ok.fresh k hT).1)))
theorem iw_zipT {elts : List Expr} {kk : Nat} {tpos p : Pos} {ds es : List PyData} (hm : S.mg "zip" = none) (ha : VE S ρ e (.im (.tuple ds))) (hb : VE S ρ e2 (.im (.tuple es))) (hg : S.sc.names.lookup ("zip" : Str) = some .globalImplicit := by rfl)
    (hse : ∀ X : Cx, starEach [e, e2] X.env = (false, eval e X.env) :: starEach [e2] X.env := by intro _; rfl) (hse2 : ∀ X : Cx, starEach [e2] X.env = (false, eval e2 X.env) :: starEach [] X.env := by intro _; rfl) (hpl : ∀ X : Cx, (backTo pos (starEach [e2] X.env)).any (·.1) = false := by intro _; rfl) :
    IW S ρ (.Tuple elts kk tpos) (.Call (.Name "zip" p) [e, e2] [] pos) (min ds.length es.length) (fun i => .tuple [ds.getD i .none, es.getD i .none]) := fun C τ vs σ H k l R q =>
  ⟨RZ.iZipA S.K (tCons (wE S e) (tCons (wE S e2) tNil)), fun X hX => by rw [← hX.K]; exact RZ.pi_zipA (by show X.env.scope.names.lookup _ = _; rw [hX.sc]; exact hg) (by rw [hX.mg]; exact hm) (pa_cons (wE_pe hX) (pa_cons (wE_pe hX) pa_nil (hse2 X)) (hse X)) (hse X) (hpl X), ha C τ vs σ H k l _ fun v H1 k1 => hb C (_ :: τ) (some v :: vs) σ H1 k1 (congrArg (· + 1) l) _ fun w H2 k2 => by
    obtain ⟨B, G, fp, k3, hd1, hd2⟩ := Ok.two k2
    cases hd1 with
    | @tup a xs _ hs hx =>
      cases hd2 with
      | @tup b ys _ ht hy =>
        refine ⟨a, b, xs, ys, rfl, .inr ⟨ex_t k3.bh hs, ex_t k3.bh ht, q (RZ.ItzT S.K a b) H2 [_, _] [_, _] rfl (fun s hs => by simp at hs; rcases hs with hs | hs <;> (subst hs; rfl)) k2 fun i l os H2 k2 => ?_⟩⟩
        obtain ⟨B, G, fp, k3, hd1, hd2⟩ := Ok.two k2
        cases hd1 with
        | @tup _ xs _ hs hx =>
          cases hd2 with
          | @tup _ ys _ ht hy =>
            have hs2 := ex_t k3.bh hs
            have ht2 := ex_t k3.bh ht
            have l1 := hx.len
            have l2 := hy.len
            refine ⟨fun hi => ?_, fun hi => ⟨xs, ys, hs2, ht2, by omega⟩⟩
            refine ⟨⟨xs, ys, xs[i]'(by omega), ys[i]'(by omega), hs2, ht2, List.getElem?_eq_getElem _, List.getElem?_eq_getElem _⟩, fun z H3 y => ?_⟩
            obtain ⟨T, x, y, rfl, hT, rfl, y1, y2⟩ := y
            obtain ⟨d1, h1, h1'⟩ := hx.getV (y1 xs hs2)
            obtain ⟨d2, h2, h2'⟩ := hy.getV (y2 ys ht2)
            dsimp only
            rw [getD_some h1, getD_some h2]
            exact k3.pair hT h1' h2'⟩
end
/-! ### comprehensions -/
/-- the scope of a block within a scope -/
def inner (sc out : Scope) : Scope := { sc with names := sc.names.map fun (n, k) => if (k == .free && out.kind == .function && out.names.lookup n == some .cell) then (n, .cell) else (n, k) }
@[reducible] def Sh.blk (S : Sh) (sc : Scope) : Sh := { S with sc := inner sc S.sc, E := fun _ _ _ => False, fa := false }
def wipeS (ρ : List Sl) : List Nat → List Sl
  | [] => ρ
  | v :: vs => (wipeS ρ vs).set v .no
section
variable {S : Sh} {ρ : List Sl} {tg it elt : Expr} {ifs : List Expr} {pos : Pos}
theorem Sh.blk_has {X : Cx} {sc : Scope} (hX : S.Has X) (s : Shared) (H : Hp) (C : Addr) (cl : List (Str × Addr)) (fp : List Addr) : (S.blk sc).Has (X.blk s H sc (compEnvC sc cl C X.env) fp) :=
  ⟨hX.prog, hX.w, hX.K, hX.mg, hX.base, hX.N, by show PySem.relabel sc X.env = _; unfold Sh.blk inner; rw [← hX.sc]; rfl, hX.calm, hX.room, takes0N, PassesOwn.never, (fun z => nomatch z), (fun z => nomatch z)⟩
def wTs (S : Sh) (ifs : List Expr) : TT := fun σ H Q => ∃ t, (∀ X, S.Has X → PTs X ifs t) ∧ t σ H Q
def VTs (S : Sh) (ρ : List Sl) (ifs : List Expr) (b : Bool) : Prop := ET S.K (wTs S ifs) ρ b
theorem wTs_pts {X : Cx} (h : S.Has X) : PTs X ifs (wTs S ifs) := ⟨fun pins s σ H Q I ⟨_, ht, q⟩ => (ht X h).run pins s σ H Q I q⟩
theorem vts_nil : VTs S ρ [] true := fun C τ vs σ H k l Q q => ⟨tYes, fun X hX => pts_nil, q H k⟩
theorem vts_one {c : Expr} {b : Bool} (h : VT S ρ c b) : VTs S ρ [c] b := fun C τ vs σ H k l Q q => ⟨wT S c, fun X hX => pts_one (wT_pt hX), h C τ vs σ H k l Q q⟩
theorem Ok.wipe {K : PySem.W.Frag} {C : Cz} {τ ρ : List Sl} {vs σ : List (Option V)} {H : Hp} (h : Ok K C (τ ++ ρ) (vs ++ σ) H) (l : τ.length = vs.length) : ∀ ws : List Nat, Ok K C (τ ++ wipeS ρ ws) (vs ++ L2.wipe σ ws) H
  | [] => h
  | w :: ws => by
    have k := Ok.set (i := τ.length + w) ((Ok.wipe h l ws).pushNo none)
    rw [off_set, l, List.set_append_right _ _ (Nat.le_add_right _ _), Nat.add_sub_cancel_left] at k
    exact k
theorem wipe_get {σ : St} {j : Nat} : ∀ {ws : List Nat}, j ∉ ws → (L2.wipe σ ws)[j]? = σ[j]?
  | [], _ => rfl
  | w :: ws, h => by
    show ((L2.wipe σ ws).set w none)[j]? = _
    rw [List.getElem?_set_ne (fun z => h (by rw [z]; exact List.mem_cons_self)), wipe_get fun z => h (List.mem_cons_of_mem _ z)]
def fold (n : Nat) (f : Nat → Bool) (g : Nat → PyData) : List PyData := ((List.range n).filter f).map g
theorem fold_yes {n : Nat} {f : Nat → Bool} {g : Nat → PyData} (h : f n = true) : fold (n + 1) f g = fold n f g ++ [g n] := by
  unfold fold
  rw [List.range_succ, List.filter_append, List.map_append, List.filter_cons, if_pos h]
  rfl
theorem fold_no {n : Nat} {f : Nat → Bool} {g : Nat → PyData} (h : f n = false) : fold (n + 1) f g = fold n f g := by
  unfold fold
  rw [List.range_succ, List.filter_append, List.map_append, List.filter_cons, if_neg (by rw [h]; decide)]
  exact List.append_nil _
theorem fold_len (n : Nat) (f : Nat → Bool) (g : Nat → PyData) : (fold n f g).length ≤ n := by
  unfold fold
  rw [List.length_map]
  have h := List.length_filter_le f (List.range n)
  rw [List.length_range] at h
  exact h
theorem ev_lc (own : List (Str × Nat)) {sc : Scope} {n : Nat} {d : Nat → PyData} (hw : IW S ρ tg it n d) (f : Nat → Bool) (g : Nat → PyData) (hz : n ≤ 100000) (hno : ∀ w ∈ own.map (·.2), ρ[w]? = some .no)
    (hb : ∀ i, i < n → ∃ ρ2 ix, (∀ j ∈ ix, j ∈ own.map (·.2)) ∧ wipeS ρ2 (own.map (·.2)) = wipeS ρ (own.map (·.2)) ∧ GD (S.blk sc) (wipeS ρ (own.map (·.2))) tg (d i) ρ2 ix ∧ VTs (S.blk sc) ρ2 ifs (f i) ∧ (f i = true → VE (S.blk sc) ρ2 elt (.im (g i)))) :
    EV S.K (tLc (wI S tg it) (wG (S.blk sc) tg) (wTs (S.blk sc) ifs) (wE (S.blk sc) elt) (own.map (·.2))) ρ (.ow (fold n f g)) :=
    fun C τ vs σ H k l Q q => hw C τ vs σ H k l _ fun J H1 zs oz lz nz k1 turn D hD => by
    have kn : ∀ {l : List Sl} {os : List (Option V)}, wipeS ρ (own.map (·.2)) = ρ := by
      intro _ _
      generalize own.map (·.2) = ws at hno
      induction ws with
      | nil => rfl
      | cons w ws ih =>
        show (wipeS ρ ws).set w .no = ρ
        rw [ih fun w' h' => hno w' (List.mem_cons_of_mem _ h')]
        apply List.ext_getElem?
        intro j
        rw [List.getElem?_set]
        split
        · rename_i e
          subst e
          rw [hno w List.mem_cons_self]
          simp
          have := hno w List.mem_cons_self
          exact (List.getElem?_eq_some_iff.mp this).1
        · rfl
    refine ⟨fun i m H' => m = n - i ∧ i ≤ n ∧ Ok S.K C (zs ++ (.yw (fold i f g) :: (τ ++ ρ))) (oz ++ (some (.ref D) :: (vs ++ σ))) H', ⟨n, by omega, Nat.zero_le _, ?_⟩, ?_⟩
    · obtain ⟨B, G, fp, k2⟩ := k1
      exact (k2.putYw hD .nil).rotIn lz
    · rintro i m H' ⟨rfl, hi, k2⟩
      obtain ⟨t1, t2⟩ := turn i _ _ H' k2
      have drop : ∀ {l : List Sl} {os : List (Option V)} {H5 : Hp}, Ok S.K C (zs ++ l) (oz ++ os) H5 → Ok S.K C l os H5 := by
        intro l os H5 k6
        clear turn k1 k2 t1 t2 nz
        induction zs generalizing oz with
        | nil =>
          have e : oz = [] := List.eq_nil_of_length_eq_zero lz.symm
          subst e
          exact k6
        | cons z zs ih =>
          match oz, lz with
          | o :: oz, lz => exact ih oz (Nat.succ.inj lz) k6.tail
      by_cases hlt : i < n
      · obtain ⟨g1, g2⟩ := t1 hlt
        obtain ⟨ρ2, ix, hix, hwp, hg, ht, he⟩ := hb i hlt
        refine .inr ⟨g1, fun H5 => Ok S.K C (zs ++ (.yw (fold (i + 1) f g) :: (τ ++ ρ))) (oz ++ (some (.ref D) :: (vs ++ σ))) H5, fun H5 k5 => ⟨n - (i + 1), by omega, rfl, hlt, k5⟩, fun x H3 y => ?_⟩
        have k4 := g2 x H3 y
        -- the target
        have k4' : Ok S.K C ((.im (d i) :: (zs ++ (.yw (fold i f g) :: τ))) ++ ρ) ((some x :: (oz ++ (some (.ref D) :: vs))) ++ σ) H3 := by
          simpa using k4
        have k4w : Ok (S.blk sc).K C (.im (d i) :: ((zs ++ (.yw (fold i f g) :: τ)) ++ wipeS ρ (own.map (·.2)))) (some x :: ((oz ++ (some (.ref D) :: vs)) ++ L2.wipe σ (own.map (·.2)))) H3 := by
          have k4x := k4'.wipe (by simp [l, lz]) (own.map (·.2))
          exact k4x
        refine hg C (zs ++ (.yw (fold i f g) :: τ)) (oz ++ (some (.ref D) :: vs)) (L2.wipe σ (own.map (·.2))) H3 x k4w (by simp [l, lz]) _ fun σ2 H4 w2 k5 => ?_
        have w3 : L2.wipe σ2 (own.map (·.2)) = L2.wipe σ (own.map (·.2)) := by
          rw [w2 _ hix]
          generalize own.map (·.2) = ws
          -- wiping twice
          have tw : ∀ (ws us : List Nat), (∀ u ∈ us, u ∈ ws) → L2.wipe (L2.wipe σ ws) us = L2.wipe σ ws := by
            intro ws us
            induction us with
            | nil => intro _; rfl
            | cons u us ih =>
              intro h
              show (L2.wipe (L2.wipe σ ws) us).set u none = _
              rw [ih fun v hv => h v (List.mem_cons_of_mem _ hv)]
              have hu := h u List.mem_cons_self
              clear h ih
              induction ws with
              | nil => cases hu
              | cons a as ih2 =>
                show ((L2.wipe σ as).set a none).set u none = (L2.wipe σ as).set a none
                by_cases hua : u = a
                · subst hua
                  rw [List.set_set]
                · rw [List.set_comm _ _ (fun z => hua z.symm), ih2 ((List.mem_cons.mp hu).resolve_left hua)]
          exact tw ws ws fun _ h => h
        refine ⟨w3, ht C _ _ σ2 H4 k5 (by simp [l, lz]) _ fun H5 k6 => ?_⟩
        -- back to the slots as they were
        have back : ∀ {a : List Sl} {oa : List (Option V)} {H6 : Hp}, a.length = oa.length → Ok S.K C (a ++ (τ ++ ρ2)) (oa ++ (vs ++ σ2)) H6 → Ok S.K C (a ++ (τ ++ ρ)) (oa ++ (vs ++ σ)) H6 := by
          intro a oa H6 la k7
          rw [← List.append_assoc, ← List.append_assoc] at k7
          have k8 := k7.wipe (by simp [l, la]) (own.map (·.2))
          rw [hwp, kn (l := []) (os := []), w3] at k8
          have k9 : Ok S.K C ((a ++ τ) ++ ρ) ((oa ++ vs) ++ σ) H6 := by
            refine k8.repl (by simp [wipe_length]) fun j => ?_
            by_cases hj : j < (oa ++ vs).length
            · left
              rw [List.getElem?_append_left hj, List.getElem?_append_left hj]
            · rw [List.getElem?_append_right (by omega), List.getElem?_append_right (by omega)]
              by_cases hm : j - (oa ++ vs).length ∈ own.map (·.2)
              · right
                have hl : (a ++ τ).length = (oa ++ vs).length := by simp [l, la]
                rw [List.getElem?_append_right (by omega), hl]
                exact hno _ hm
              · left
                exact (wipe_get hm).symm
          rw [List.append_assoc, List.append_assoc] at k9
          exact k9
        cases hf : f i with
        | false =>
          refine iteF ?_
          rw [fold_no hf]
          have k6' : Ok S.K C ((zs ++ [.yw (fold i f g)]) ++ (τ ++ ρ2)) ((oz ++ [some (.ref D)]) ++ (vs ++ σ2)) H5 := by
            have k6b : Ok S.K C _ _ H5 := k6
            simpa using k6b
          have := back (by simp [lz]) k6'
          simpa using this
        | true =>
          refine iteT (he hf C _ _ σ2 H5 k6 (by simp [l, lz]) _ fun y H6 k7 => ?_)
          have k8 : Ok S.K C ((.im (g i) :: zs) ++ (.yw (fold i f g) :: (τ ++ ρ2))) ((some y :: oz) ++ (some (.ref D) :: (vs ++ σ2))) H6 := by
            have k7b : Ok S.K C _ _ H6 := k7
            simpa using k7b
          have k9 := (k8.rotOut (by simp [lz])).swap
          obtain ⟨p, xs, e1, hp, lx, k10⟩ := k9.grew
          have eD : D = p := V.ref.inj e1
          subst eD
          refine ⟨xs, hp, Evl.sz_lt (by have := fold_len i f g; omega), ?_⟩
          rw [fold_yes hf]
          have k11 := k10.rotIn lz
          have k12 : Ok S.K C ((zs ++ [.yw (fold i f g ++ [g i])]) ++ (τ ++ ρ2)) ((oz ++ [some (.ref D)]) ++ (vs ++ σ2)) (upd H6 D (.lst (xs ++ [y]))) := by simpa using k11
          have := back (by simp [lz]) k12
          simpa using this
      · have e : i = n := by omega
        subst e
        exact .inl ⟨t2 (Nat.le_refl _), q _ _ (drop k2).old⟩
theorem ve_lc (own : List (Str × Nat)) {sc : Scope} {n : Nat} {d : Nat → PyData} (hw : IW S ρ tg it n d) (f : Nat → Bool) (g : Nat → PyData) (hz : n ≤ 100000) (ok : BlkOk S.N S.sc sc own) (hnd : S.N.Nodup) (hno : ∀ w ∈ own.map (·.2), ρ[w]? = some .no)
    (hb : ∀ i, i < n → ∃ ρ2 ix, (∀ j ∈ ix, j ∈ own.map (·.2)) ∧ wipeS ρ2 (own.map (·.2)) = wipeS ρ (own.map (·.2)) ∧ GD (S.blk sc) (wipeS ρ (own.map (·.2))) tg (d i) ρ2 ix ∧ VTs (S.blk sc) ρ2 ifs (f i) ∧ (f i = true → VE (S.blk sc) ρ2 elt (.im (g i))))
    (hfs : ∀ (X : Cx) x, foldedSetIterable it X.env x = pure x := by intro _ _; rfl) : VE S ρ (.ListComp elt [⟨tg, it, ifs, 0⟩] sc pos) (.ow (fold n f g)) :=
  ve_of (fun X hX => pe_lc hX.calm (by rw [hX.N]; exact hnd) (wI_pi hX) (by rw [hX.N, hX.sc]; exact ok) (fun s H C cl fp => wG_pg (Sh.blk_has hX s H C cl fp)) (fun s H C cl fp => wTs_pts (Sh.blk_has hX s H C cl fp)) (fun s H C cl fp => wE_pe (Sh.blk_has hX s H C cl fp)) (hfs X)) (ev_lc own hw f g hz hno hb)
/-- x = [..] -/
theorem rs_asgLc (i : Nat) {x : Str} {p spos : Pos} {P : Pst} (own : List (Str × Nat)) {sc : Scope} {n : Nat} {d : Nat → PyData} (hw : IW S ρ tg it n d) (f : Nat → Bool) (g : Nat → PyData) (hz : n ≤ 100000) (ok : BlkOk S.N S.sc sc own) (hnd : S.N.Nodup) (hno : ∀ w ∈ own.map (·.2), ρ[w]? = some .no)
    (hb : ∀ i, i < n → ∃ ρ2 ix, (∀ j ∈ ix, j ∈ own.map (·.2)) ∧ wipeS ρ2 (own.map (·.2)) = wipeS ρ (own.map (·.2)) ∧ GD (S.blk sc) (wipeS ρ (own.map (·.2))) tg (d i) ρ2 ix ∧ VTs (S.blk sc) ρ2 ifs (f i) ∧ (f i = true → VE (S.blk sc) ρ2 elt (.im (g i))))
    (q : P.nx (ρ.set i (.ow (fold n f g)))) (hi : S.N[i]? = some x) (hx : S.sc.names.lookup x = some .local) (hk : S.sc.kind = .function) (hl : (p.line == pos.line) = true) (ha : (sc.names.any fun (n, k) => n == x && (k == .local || k == .cell)) = false)
    (hfs : ∀ (X : Cx) x, foldedSetIterable it X.env x = pure x := by intro _ _; rfl) : RS S ρ (.Assign [.Name x p] (.ListComp elt [⟨tg, it, ifs, 0⟩] sc pos) spos) P :=
  rs_of (t := tAsg (tLc (wI S tg it) (wG (S.blk sc) tg) (wTs (S.blk sc) ifs) (wE (S.blk sc) elt) (own.map (·.2))) (gName i)) (fun X hX => ps_setLc hX.calm (by rw [hX.N]; exact hnd) (by rw [hX.N]; exact hi) (by rw [hX.sc]; exact hx) (sw_true (by rw [hX.sc]; exact hk) (by rw [hX.sc]; exact hx) hl ha) (wI_pi hX) (by rw [hX.N, hX.sc]; exact ok) (fun s H C cl fp => wG_pg (Sh.blk_has hX s H C cl fp)) (fun s H C cl fp => wTs_pts (Sh.blk_has hX s H C cl fp)) (fun s H C cl fp => wE_pe (Sh.blk_has hX s H C cl fp)) (hfs X))
    fun C τ vs σ H D k l nv m => by
    show tLc (wI S tg it) (wG (S.blk sc) tg) (wTs (S.blk sc) ifs) (wE (S.blk sc) elt) (own.map (·.2)) σ H (fun x H1 => gName i x σ H1 D.nx)
    exact ev_lc own hw f g hz hno hb C τ vs σ H k l _ fun v H' k2 => m.nx _ (σ.set i (some v)) H' q (by
      have k3 := Ok.set (i := τ.length + i) k2
      rw [off_set, l, List.set_append_right _ _ (Nat.le_add_right _ _), Nat.add_sub_cancel_left] at k3
      exact k3)
end
/-! ### a def by its body -/
def Pst.of (o : Oc) : Pst := ⟨fun _ => o = .ret .none, fun r _ => ∃ d, o = .ret d ∧ r = .im d, fun _ => False, fun _ => False, fun c => o = .exc c⟩
@[reducible] def Md.sh (M : Md) (N : List Str) (sc : Scope) (k : Nat) (E : XK) : Sh := { M with N := N, sc := sc, k := k, E := E, fa := true }
def slots (n : Nat) (ds : List PyData) : List Sl := ds.map Sl.im ++ List.replicate (n - ds.length) .no
theorem Sls.ofData {K : PySem.W.Frag} {C : Cz} {B G H : Hp} : ∀ {vs : List V} {ds : List PyData}, DtA K B vs ds → ∀ {ρ : List Sl} {σ : List (Option V)} {fp : List Addr}, Sls K C B G H ρ σ fp → Sls K C B G H (ds.map Sl.im ++ ρ) (vs.map some ++ σ) fp
  | _, _, .nil, _, _, _, h => h
  | _, _, .cons h1 t, _, _, _, h => .cons (f := []) ⟨rfl, _, rfl, h1⟩ (Sls.ofData t h)
theorem Sls.ofNo {K : PySem.W.Frag} {C : Cz} {B G H : Hp} : ∀ (n : Nat), Sls K C B G H (List.replicate n .no) (List.replicate n none) []
  | 0 => .nil
  | n + 1 => .cons (f := []) rfl (Sls.ofNo n)
theorem fn_ok {M : Md} {x qual : Str} {st : Stmt} {f : Addr} {fd : FuncData} {N ps : List Str} {k : Nat} {G : List PyData → Oc → Prop} (F : Fun M.K x qual st f fd) (hm : M.mg x = some (.ref f)) (hb : Binds M.K fd ps []) (sc : FnScope N ps (defScope st)) (len : ∀ ds o, G ds o → ds.length = ps.length)
    (body : ∀ E ds o, G ds o → RB (M.sh N (defScope st) k E) (slots N.length ds) (defBody st) (Pst.of o)) : Fn M (k + 1) x G := by
  refine ⟨f, fd, ps, F.okN sc (fun vs H Q E h => ?_) (fun cdv A outer s H vs Q E hr h => ?_), hm, F.kp, hb⟩
  · obtain ⟨B, ds, o, hG, _, hd, _⟩ := h
    rw [hd.len]
    exact len ds o hG
  · obtain ⟨B, ds, o, hG, hB, hd, q⟩ := h
    refine ⟨wB (M.sh N (defScope st) k E) (defBody st), wB_pss ⟨rfl, rfl, rfl, rfl, rfl, rfl, rfl, rfl, hr, L2N.takes_of rfl rfl rfl rfl, passes_of rfl, fun _ _ => rfl, fun _ => ⟨rfl, rfl⟩⟩, ?_⟩
    have k0 : Ok M.K ⟨B, H, []⟩ (slots N.length ds) (L2.start N vs) H := by
      refine ⟨B, B, [], Ex.refl _, Ex.refl _, hB, fun a o q _ => q, fun a o q => .inl q, fun a q => q, List.nodup_nil, fun p hp => absurd hp List.not_mem_nil, ?_⟩
      unfold slots L2.start
      rw [hd.len]
      exact Sls.ofData hd (Sls.ofNo _)
    refine body E ds o hG ⟨B, H, []⟩ [] [] (L2.start N vs) H _ k0 rfl (fun _ z => nomatch z) ⟨fun ρ σ H' e k1 => ?_, fun r ρ v σ H' e k1 => ?_, fun _ _ _ e => e.elim, fun _ _ _ e => e.elim, fun c cv ρ σ H' e hc k1 => ?_⟩
    · have e' : o = .ret .none := e
      subst e'
      obtain ⟨B', G', fp', k2⟩ := k1
      exact q .non H' B' k2.b k2.bh (fun a x z => k2.e a x z (fun y => nomatch y)) k2.n .non
    · obtain ⟨d, e1, e2⟩ := e
      subst e1 e2
      obtain ⟨B', G', fp', k2, hd'⟩ := k1.head
      exact q v H' B' k2.b k2.bh (fun a x z => k2.e a x z (fun y => nomatch y)) k2.n hd'
    · have e' : o = .exc c := e
      subst e'
      obtain ⟨B', G', fp', k2⟩ := k1
      exact q H' cv (fun a x z => k2.e a x z (fun y => nomatch y)) hc
end Kd

set_option Elab.async false
set_option linter.all false
set_option maxRecDepth 100000
namespace Kd
open PySem L2
open Evl (Ex ex_l ex_t ex_rd fresh_back)
def env0 (sc : Scope) : Env := { scope := sc, locals := 0, globals := 0, cells := [] }
section
variable {S : Sh} {ρ : List Sl} {e a b o : Expr} {pos : Pos} {P : Pst}
/-! ### stores -/
theorem pget_list {X : Cx} : PGet X (rIxL X.K) := by
  intro pins s σ H x y v u Q I rx ry h
  obtain ⟨p, xs, i, z, rfl, rfl, hq, he, q⟩ := h
  cases rx
  obtain ⟨t, rfl⟩ := ry
  obtain ⟨its, r, pl, hz⟩ := I.list hq
  obtain ⟨j, h1, h2, h3, h4, h5⟩ := atI_get he
  obtain ⟨w, ew, rw'⟩ := r.get h2
  have hl := r.length
  have hn := line63
  have fin : EP X pins σ Q w s := ⟨z, H, I, rw', q⟩
  by_cases h0 : 0 ≤ i
  · have hj : i.toNat = j := by
      rw [seqIndex_of h0 h5] at h1
      exact Option.some.inj h1
    exact wpAny_getItem_list pl.isList h0 (by omega) (by rw [hj]; simpa using ew) fin
  · have hj : (i + (its.toArray.size : Int)).toNat = j := by
      rw [seqIndex_neg (by omega) h4] at h1
      rw [List.size_toArray, ← hl]
      exact Option.some.inj h1
    exact wpAny_getItem_list_neg pl.isList (by omega) (by rw [List.size_toArray] <;> omega) (by omega) (by rw [hj]; simpa using ew) fin
theorem nv_all {τ ρ : List Sl} (h1 : ∀ s ∈ τ, noV s = true) (h2 : ρ.all noV = true) : ∀ s ∈ τ ++ ρ, noV s = true := fun s hs => (List.mem_append.mp hs).elim (h1 s) (List.all_eq_true.mp h2 s)
/-- x[i] = e, x an own list in slot i -/
theorem rs_seti (i : Nat) {x : Str} {ds : List PyData} {d : PyData} {k : Int} {j : Nat} {p1 p2 : Pos} {ix : Expr} (h : VE S ρ e (.im d)) (hi : VE S ρ ix (.im (.int k))) (hj : ixN ds.length k = some j) (q : P.nx (ρ.set i (.ow (ds.set j d)))) (hN : S.N[i]? = some x := by rfl) (hv : Vis S.sc x := by walk_at "kd vis") (nv : ρ.all noV = true := by rfl) (hr : ρ[i]? = some (.ow ds) := by rfl)
    (hd : (x == ("__debug__" : Str)) = false := by decide) (hcd : (x == ("__classdict__" : Str)) = false := by decide)
    (hs : ∀ X : Cx, swapsWithSole [.Subscript (.Name x p1) ix p2] e pos.line X.env = pure false := by intro _; rfl) (hw : ∀ X : Cx, swappedStores [.Subscript (.Name x p1) ix p2] e X.env = pure none := by intro _; rfl)
    (h1 : ∀ X : Cx, (assignEach [.Subscript (.Name x p1) ix p2] X.env).map (·.2) = [assign (.Subscript (.Name x p1) ix p2) X.env] := by intro _; rfl)
    (ha : ∀ (X : Cx) v, assign (.Subscript (.Name x p1) ix p2) X.env v = (do
      let ov ← holding [v] (eval (.Name x p1) X.env)
      let iv ← holding [v, ov] (eval ix X.env)
      standAt p2
      holding [v, ov, iv] (setItem ov iv v)
      release [v, ov, iv] []) := by intro _ _; rfl) : RS S ρ (.Assign [.Subscript (.Name x p1) ix p2] e pos) P :=
  rs_of (t := tAsg (wE S e) (gSub (tVar i) (wE S ix) rSetL)) (fun X hX => ps_asg (wE_pe hX) (pg_sub (pe_var (by rw [hX.N]; exact hN) (by rw [hX.sc]; exact hv) hd hcd) (wE_pe hX) set_list (ha X)) (hs X) (hw X) (h1 X)) fun C τ vs σ H D k l nvt m => h C τ vs σ H k l _ fun y H1 k1 => by
    obtain ⟨v, ev, k2⟩ := k1.alias (i := τ.length + i + 1) (s := .ow ds) (by rw [List.getElem?_cons_succ]; exact off_get hr) (by intro z; cases z)
    rw [List.getElem?_cons_succ] at ev
    have ev' := ev
    rw [l, List.getElem?_append_right (Nat.le_add_right _ _), Nat.add_sub_cancel_left] at ev
    refine ⟨v, ev, hi C (_ :: _ :: τ) (some v :: some y :: vs) σ H1 k2 (congrArg (· + 2) l) _ fun w H2 k3 => ?_⟩
    have e3 := k3.int
    subst e3
    have k3' : Ok S.K C (.im (.int _) :: .al ds :: .im d :: (τ ++ ρ)) (some _ :: some v :: some y :: (vs ++ σ)) H2 := k3
    obtain ⟨B, G, fp, k4, hy⟩ := k3'.tail.tail.head
    obtain ⟨p, xs, e1, hp, hd, fin⟩ := k4.change (nv_all nvt nv) (off_get (τ := τ) hr)
    rw [e1] at ev'
    cases ev'
    refine ⟨p, xs, _, j, rfl, rfl, hp, by rw [hd.len]; exact hj, m.nx _ σ _ q ?_⟩
    have k5 := fin (xs.set j y) (ds.set j d) (hd.set hy j)
    rw [off_set] at k5
    exact k5
/-- x[i] += e -/
theorem rs_augi (i : Nat) {x : Str} {ds : List PyData} {u w : Int} {k : Int} {j : Nat} {p1 p2 : Pos} {ix : Expr} (hr : ρ[i]? = some (.ow ds)) (hi : VE S ρ ix (.im (.int k))) (h : VE S ρ e (.im (.int w))) (hj : ixN ds.length k = some j) (hu : ds[j]? = some (.int u)) (q : P.nx (ρ.set i (.ow (ds.set j (.int (u + w)))))) (hN : S.N[i]? = some x) (hv : Vis S.sc x) (nv : ρ.all noV = true)
    (hd : (x == ("__debug__" : Str)) = false := by decide) (hcd : (x == ("__classdict__" : Str)) = false := by decide)
    (ha : ∀ ov iv new, augStore ix ov iv new = (do holding [new, ov, iv] (setItem ov iv new); release [new, ov, iv] []; pure .next) := by intros; rfl) : RS S ρ (.AugAssign (.Subscript (.Name x p1) ix p2) .Add e pos) P :=
  rs_of (t := tAugS (tVar i) (wE S ix) (wE S e) (rIxL S.K) (ipI fun i j => i + j) rSetL) (fun X hX => by
      rw [← hX.K]
      exact ps_augS (pe_var (by rw [hX.N]; exact hN) (by rw [hX.sc]; exact hv) hd hcd) (wE_pe hX) pget_list (wE_pe hX) ip_add set_list ha) fun C τ vs σ H D kk l nvt m => by
    obtain ⟨v, ev, k2⟩ := kk.alias (off_get (τ := τ) hr) (by intro z; cases z)
    have ev' := ev
    rw [l, List.getElem?_append_right (Nat.le_add_right _ _), Nat.add_sub_cancel_left] at ev
    refine ⟨v, ev, hi C (_ :: τ) (some v :: vs) σ H k2 (congrArg (· + 1) l) _ fun z H2 k3 => ?_⟩
    have e3 := k3.int
    subst e3
    have k3' : Ok S.K C (.im (.int k) :: .al ds :: (τ ++ ρ)) (some (.int k) :: some v :: (vs ++ σ)) H2 := k3
    have kd := k3'.tail.dt (d := .list ds) rfl
    cases kd with
    | @lst p xs _ hs hx =>
      obtain ⟨v0, g1, g2⟩ := hx.get hu
      cases g2
      refine ⟨p, xs, k, .int u, rfl, rfl, hs, by unfold atI; rw [hx.len, hj]; exact g1, h C (_ :: _ :: τ) (_ :: _ :: vs) σ H2 k3 (congrArg (· + 2) l) _ fun z H3 k4 => ?_⟩
      have e4 := k4.int
      subst e4
      refine ⟨u, w, rfl, rfl, ?_⟩
      have k5 : Ok S.K C (τ ++ ρ) (vs ++ σ) H3 := k4.tail.tail.tail
      obtain ⟨B, G, fp, k6⟩ := k5
      obtain ⟨p', xs', e1, hp, hd, fin⟩ := k6.change (nv_all nvt nv) (off_get (τ := τ) hr)
      rw [e1] at ev'
      cases ev'
      refine ⟨p, xs', k, j, rfl, rfl, hp, by rw [hd.len]; exact hj, m.nx _ σ _ q ?_⟩
      have k7 := fin (xs'.set j (.int (u + w))) (ds.set j (.int (u + w))) (hd.set (.int _) j)
      rw [off_set] at k7
      exact k7
/-- x += e, ints -/
theorem rs_aug (i : Nat) {x : Str} {u w : Int} {op : Operator} {f : Int → Int → Int} {p : Pos} (h : VE S ρ e (.im (.int w))) (ho : ∀ X : Cx, PIp X op (ipI f)) (q : P.nx (ρ.set i (.im (.int (f u w))))) (hr : ρ[i]? = some (.im (.int u)) := by rfl) (hi : S.N[i]? = some x := by rfl) (hnd : S.N.Nodup := by walk_at "kd nd") (hx : Loc S.sc x := by walk_at "kd loc")
    (hf : S.fa = true ∨ S.sc.names.lookup x = some .local := by first | exact .inl rfl | exact .inr rfl) : RS S ρ (.AugAssign (.Name x p) op e pos) P :=
  rs_of (t := tAug i (wE S e) (ipI f)) (fun X hX => ps_aug (by rw [hX.N]; exact hnd) (by rw [hX.N]; exact hi) (by rw [hX.sc]; exact hx) (wE_pe hX) (ho X) (hf.elim (fun z => .inl (hX.fn z x)) fun z => .inr (by rw [hX.sc]; exact z)))
    fun C τ vs σ H D k l nv m => by
    obtain ⟨v, ev, k2⟩ := k.alias (off_get (τ := τ) hr) (by intro z; cases z)
    rw [l, List.getElem?_append_right (Nat.le_add_right _ _), Nat.add_sub_cancel_left] at ev
    have e0 : v = .int u := Ok.int k2
    subst e0
    refine ⟨_, ev, h C τ vs σ H k l _ fun y H' k3 => ?_⟩
    have e1 := k3.int
    subst e1
    refine ⟨u, w, rfl, rfl, m.nx _ _ H' q ?_⟩
    have k4 := Ok.set (i := τ.length + i) (k3.tail.flat (.int (f u w)))
    rw [off_set, l, List.set_append_right _ _ (Nat.le_add_right _ _), Nat.add_sub_cancel_left] at k4
    exact k4
/-- x, y = a, b -/
theorem swap_env {ts : List Expr} {v : Expr} {env : Env} {sc : Scope} (h : env.scope = sc) : swappedStores ts v env = swappedStores ts v (env0 sc) := by
  subst h
  rfl
theorem rs_par (i j : Nat) {x y : Str} {r1 r2 : Sl} {px py pt pt2 : Pos} {kt k2} (h : VA S ρ [a, b] [r1, r2]) (q : P.nx ((ρ.set i r1).set j r2)) (hi : S.N[i]? = some x := by rfl) (hj : S.N[j]? = some y := by rfl) (hnd : S.N.Nodup := by walk_at "kd nd") (hij : i ≠ j := by decide) (hx : S.sc.names.lookup x = some .local := by rfl) (hy : S.sc.names.lookup y = some .local := by rfl)
    (hw : swappedStores [.Tuple [.Name x px, .Name y py] kt pt] (.Tuple [a, b] k2 pt2) (env0 S.sc) = pure (some [x, y]) := by rfl)
    (hs : ∀ X : Cx, swapsWithSole [.Tuple [.Name x px, .Name y py] kt pt] (.Tuple [a, b] k2 pt2) pos.line X.env = pure false := by intro _; rfl) :
    RS S ρ (.Assign [.Tuple [.Name x px, .Name y py] kt pt] (.Tuple [a, b] k2 pt2) pos) P :=
  rs_of (t := tPar i j (wA S [a, b])) (fun X hX => ps_par hX.calm (by rw [hX.N]; exact hnd) (by rw [hX.N]; exact hi) (by rw [hX.N]; exact hj) hij (by rw [hX.sc]; exact hx) (by rw [hX.sc]; exact hy) (wA_pa hX) ((swap_env hX.sc).trans hw) (hs X)) fun C τ vs σ H D k l nv m => h C τ vs σ H k l _ fun ws H' lw k3 => by
    match ws, lw with
    | [v, w], _ =>
      refine ⟨v, w, rfl, m.nx _ _ H' q ?_⟩
      have k3' : Ok S.K C (r2 :: r1 :: (τ ++ ρ)) (some w :: some v :: (vs ++ σ)) H' := k3
      have k4 := Ok.set (i := τ.length + i) (k3'.swap)
      have k5 : Ok S.K C (r2 :: (τ ++ ρ.set i r1)) (some w :: (vs ++ σ.set i (some v))) H' := by
        have k6 := Ok.set (i := τ.length + i + 1) k3'.swap
        rw [List.set_cons_succ, List.set_cons_succ, off_set, l, List.set_append_right _ _ (Nat.le_add_right _ _), Nat.add_sub_cancel_left] at k6
        exact k6
      have k7 := Ok.set (i := τ.length + j) k5
      rw [off_set, l, List.set_append_right _ _ (Nat.le_add_right _ _), Nat.add_sub_cancel_left] at k7
      exact k7
end
/-! ### drawing: expressions whose value is open, that change a resource -/
def ER (S : Sh) (ρ : List Sl) (e : Expr) (P : PyData → Prop) : Prop := ∀ (C : Cz) (τ : List Sl) (vs σ : List (Option V)) (H : Hp), Ok S.K C (τ ++ ρ) (vs ++ σ) H → τ.length = vs.length → (∀ s ∈ τ, noV s = true) →
  ∀ Q : VK, (∀ v H' d, P d → Ok S.K C (.im d :: (τ ++ ρ)) (some v :: (vs ++ σ)) H' → Q v H') → wE S e σ H Q
def ERA (S : Sh) (ρ : List Sl) (es : List Expr) (P : List PyData → Prop) : Prop := ∀ (C : Cz) (τ : List Sl) (vs σ : List (Option V)) (H : Hp), Ok S.K C (τ ++ ρ) (vs ++ σ) H → τ.length = vs.length → (∀ s ∈ τ, noV s = true) →
  ∀ Q : List V → Hp → Prop, (∀ ws H' ds, P ds → ws.length = ds.length → Ok S.K C ((ds.map Sl.im).reverse ++ (τ ++ ρ)) (ws.reverse.map some ++ (vs ++ σ)) H' → Q ws H') → wA S es σ H Q
def EB (S : Sh) (ρ : List Sl) (e : Expr) (P : Bool → Prop) : Prop := ∀ (C : Cz) (τ : List Sl) (vs σ : List (Option V)) (H : Hp), Ok S.K C (τ ++ ρ) (vs ++ σ) H → τ.length = vs.length → (∀ s ∈ τ, noV s = true) →
  ∀ Q : Bool → Hp → Prop, (∀ b H', P b → Ok S.K C (τ ++ ρ) (vs ++ σ) H' → Q b H') → wT S e σ H Q
section
variable {S : Sh} {ρ : List Sl} {e a b o : Expr} {pos : Pos} {P : PyData → Prop} {Z : Pst}
theorem er_of {d : PyData} (h : VE S ρ e (.im d)) (hp : P d) : ER S ρ e P := fun C τ vs σ H k l nv Q q => h C τ vs σ H k l Q fun v H' k2 => q v H' d hp k2
theorem er_imp {P' : PyData → Prop} (h : ER S ρ e P') (hp : ∀ d, P' d → P d) : ER S ρ e P := fun C τ vs σ H k l nv Q q => h C τ vs σ H k l nv Q fun v H' d z k2 => q v H' d (hp d z) k2
theorem noV_im {τ : List Sl} {d : PyData} (nv : ∀ s ∈ τ, noV s = true) : ∀ s ∈ Sl.im d :: τ, noV s = true := fun s hs => (List.mem_cons.mp hs).elim (fun z => by rw [z]; rfl) (nv s)
theorem er_bin {op : Operator} {P1 : PyData → Prop} {P2 : PyData → PyData → Prop} (ha : ER S ρ a P1) (hb : ∀ d1, P1 d1 → ER S ρ b (P2 d1)) (ho : ∀ d1 d2, P1 d1 → P2 d1 d2 → ∃ d3, P d3 ∧ OD S (binaryOp op) (.im d1) (.im d2) (.im d3)) : ER S ρ (.BinOp a op b pos) P := fun C τ vs σ H k l nv Q q =>
  ⟨tOp (wOp S (binaryOp op)) (wE S a) (wE S b), fun X hX => pe_op (wOp_op hX) (wE_pe hX) (wE_pe hX), ha C τ vs σ H k l nv _ fun v1 H1 d1 h1 k1 =>
    hb d1 h1 C (_ :: τ) (some v1 :: vs) σ H1 k1 (congrArg (· + 1) l) (noV_im nv) _ fun v2 H2 d2 h2 k2 => by
      obtain ⟨d3, h3, od⟩ := ho d1 d2 h1 h2
      exact od C _ _ v1 v2 H2 k2 Q fun v H' k3 => q v H' d3 h3 k3⟩
theorem er_ix {P1 : PyData → Prop} {P2 : PyData → PyData → Prop} (ha : ER S ρ a P1) (hb : ∀ d1, P1 d1 → ER S ρ b (P2 d1)) (ho : ∀ d1 d2, P1 d1 → P2 d1 d2 → ∃ d3, P d3 ∧ XD S (.im d1) (.im d2) (.im d3)) (hs : PlainIx b := by exact fun _ _ => rfl) : ER S ρ (.Subscript a b pos) P := fun C τ vs σ H k l nv Q q =>
  ⟨tOp (wIx S) (wE S a) (wE S b), fun X hX => pe_ix (wIx_ix hX) (wE_pe hX) (wE_pe hX) hs, ha C τ vs σ H k l nv _ fun v1 H1 d1 h1 k1 =>
    hb d1 h1 C (_ :: τ) (some v1 :: vs) σ H1 k1 (congrArg (· + 1) l) (noV_im nv) _ fun v2 H2 d2 h2 k2 => by
      obtain ⟨d3, h3, od⟩ := ho d1 d2 h1 h2
      exact od C _ _ v1 v2 H2 k2 Q fun v H' k3 => q v H' d3 h3 k3⟩
theorem eb_cmp {op : CmpOp} {P1 : PyData → Prop} {P2 : PyData → PyData → Prop} {PB : Bool → Prop} (ha : ER S ρ a P1) (hb : ∀ d1, P1 d1 → ER S ρ b (P2 d1)) (ho : ∀ d1 d2, P1 d1 → P2 d1 d2 → ∃ c, PB c ∧ OD S (compareOp op) (.im d1) (.im d2) (.im (.bool c))) (hm : behindInMarks op b = false) : EB S ρ (.Compare a [op] [b] pos) PB := fun C τ vs σ H k l nv Q q =>
  ⟨tTest (tOp (wOp S (compareOp op)) (wE S a) (wE S b)), fun X hX => pt_cmpR (wOp_op hX) (wE_pe hX) (wE_pe hX) hm, ha C τ vs σ H k l nv _ fun v1 H1 d1 h1 k1 =>
    hb d1 h1 C (_ :: τ) (some v1 :: vs) σ H1 k1 (congrArg (· + 1) l) (noV_im nv) _ fun v2 H2 d2 h2 k2 => by
      obtain ⟨c, h3, od⟩ := ho d1 d2 h1 h2
      exact od C _ _ v1 v2 H2 k2 _ fun v H' k3 => by
        have e := k3.bl
        subst e
        exact ⟨c, rfl, q c H' h3 k3.tail⟩⟩
theorem eb_of {c : Bool} {PB : Bool → Prop} (h : VT S ρ e c) (hp : PB c) : EB S ρ e PB := fun C τ vs σ H k l nv Q q => h C τ vs σ H k l Q fun H' k2 => q c H' hp k2
theorem er_if {t : Expr} {PB : Bool → Prop} (ht : EB S ρ t PB) (ha : PB true → ER S ρ a P) (hb : PB false → ER S ρ b P) : ER S ρ (.IfExp t a b pos) P := fun C τ vs σ H k l nv Q q =>
  ⟨tIf (wT S t) (wE S a) (wE S b), fun X hX => pe_ifExp (wT_pt hX) (wE_pe hX) (wE_pe hX), ht C τ vs σ H k l nv _ fun c H1 hc k1 => by
    cases c with
    | true => exact iteT (ha hc C τ vs σ H1 k1 l nv Q q)
    | false => exact iteF (hb hc C τ vs σ H1 k1 l nv Q q)⟩
theorem era_nil {PL : List PyData → Prop} (h : PL []) : ERA S ρ [] PL := fun C τ vs σ H k l nv Q q => ⟨tNil, fun X hX => pa_nil, q [] H [] h rfl k⟩
theorem era_cons {es : List Expr} {P1 : PyData → Prop} {PL : List PyData → Prop} (ha : ER S ρ e P1) (hs : ∀ d, P1 d → ERA S ρ es (fun ds => PL (d :: ds))) (hp : ∀ X : Cx, starEach (e :: es) X.env = (false, eval e X.env) :: starEach es X.env := by intro _; rfl) : ERA S ρ (e :: es) PL := fun C τ vs σ H k l nv Q q =>
  ⟨tCons (wE S e) (wA S es), fun X hX => pa_cons (wE_pe hX) (wA_pa hX) (hp X), ha C τ vs σ H k l nv _ fun v1 H1 d1 h1 k1 => hs d1 h1 C (_ :: τ) (some v1 :: vs) σ H1 k1 (congrArg (· + 1) l) (noV_im nv) _ fun ws H2 ds h2 lw k2 => q (v1 :: ws) H2 (d1 :: ds) h2 (congrArg (· + 1) lw) (by
      rw [List.map_cons, List.reverse_cons, List.append_assoc, List.reverse_cons, List.map_append, List.append_assoc]
      exact k2)⟩
theorem er_tup {es : List Expr} {j} (h : ERA S ρ es (fun ds => P (.tuple ds) ∧ ds.length ≤ 100000)) : ER S ρ (.Tuple es j pos) P := fun C τ vs σ H k l nv Q q =>
  ⟨tTup (wA S es), fun X hX => pe_tup (wA_pa hX), h C τ vs σ H k l nv _ fun ws H1 ds hp lw k1 => by
    refine ⟨Evl.sz_of (by omega), fun p hpp => q _ _ _ hp.1 ?_⟩
    obtain ⟨B, G, fp, k2, hd⟩ := k1.rev lw
    exact (k2.lay hpp).put (.tup (.inl (.inl upd_same)) (hd.up (Ex.new (Ok.fresh k2 hpp).1)))⟩
theorem er_lst {es : List Expr} (h : ERA S ρ es (fun ds => P (.list ds) ∧ ds.length ≤ 100000)) : ER S ρ (.List es pos) P := fun C τ vs σ H k l nv Q q =>
  ⟨tLst (wA S es), fun X hX => pe_lst (wA_pa hX), h C τ vs σ H k l nv _ fun ws H1 ds hp lw k1 => by
    refine ⟨Evl.sz_of (by omega), fun p hpp => q _ _ _ hp.1 ?_⟩
    obtain ⟨B, G, fp, k2, hd⟩ := k1.rev lw
    exact (k2.putOwn hpp hd).freeze⟩
theorem er_callT (id : String) {x : Str} {es : List Expr} {p : Pos} (hm : S.mg x = none) (h : ERA S ρ (e :: es) (fun ds => ∃ d, P d ∧ CD S (.type id) (ds.map Sl.im) (.im d))) (hg : S.sc.names.lookup x = some .globalImplicit := by rfl) (hv : bootBuiltins x = some (.type id) := by decide +kernel)
    (hn : x ≠ "__name__" := by decide) (hdb : (x == ("__debug__" : Str)) = false := by decide)
    (he : ∀ X : Cx, starEach (e :: es) X.env = (false, eval e X.env) :: starEach es X.env := by intro _; rfl) (hpl : ∀ X : Cx, (backTo pos (starEach es X.env)).any (·.1) = false := by intro _; rfl) : ER S ρ (.Call (.Name x p) (e :: es) [] pos) P := fun C τ vs σ H k l nv Q q =>
  ⟨tCB (wCall S (.type id)) (wA S (e :: es)), fun X hX => pe_callTy (wCall_call hX) (by show X.env.scope.names.lookup x = _; rw [hX.sc]; exact hg) (by rw [hX.mg]; exact hm) hv (wA_pa hX) hn hdb (he X) (hpl X), h C τ vs σ H k l nv _ fun ws H1 ds hd lw k1 => by
    obtain ⟨d, hp, cd⟩ := hd
    exact cd C _ _ ws H1 (by rw [List.length_map]; exact lw) k1 Q fun v H' k2 => q v H' d hp k2⟩
/-! statements -/
theorem rs_asgR (i : Nat) {x : Str} {p : Pos} (h : ER S ρ e P) (q : ∀ d, P d → Z.nx (ρ.set i (.im d))) (hi : S.N[i]? = some x := by rfl) (hnd : S.N.Nodup := by walk_at "kd nd") (hx : Loc S.sc x := by walk_at "kd loc") (hf : S.fa = true ∨ S.sc.names.lookup x = some .local := by first | exact .inl rfl | exact .inr rfl)
    (hs : ∀ X : Cx, X.env.scope = S.sc → swapsWith e (some (.Name x p)) pos.line X.env = pure false := by intro _ _; rfl) : RS S ρ (.Assign [.Name x p] e pos) Z :=
  rs_of (t := tAsg (wE S e) (gName i)) (fun X hX => ps_set (by rw [hX.N]; exact hnd) (by rw [hX.N]; exact hi) (by rw [hX.sc]; exact hx) (wE_pe hX) (hs X hX.sc) (hf.elim (fun z => .inl (hX.fn z x)) fun z => .inr (by rw [hX.sc]; exact z)))
    fun C τ vs σ H D k l nv m => h C τ vs σ H k l nv _ fun v H' d hd k2 => m.nx _ _ H' (q d hd) (by
      have k3 := Ok.set (i := τ.length + i) k2
      rw [off_set, l, List.set_append_right _ _ (Nat.le_add_right _ _), Nat.add_sub_cancel_left] at k3
      exact k3)
theorem rs_retR (h : ER S ρ e P) (q : ∀ d, P d → Z.rt (.im d) ρ) : RS S ρ (.Return (some e) pos) Z := rs_of (t := tRet (wE S e)) (fun X hX => ps_ret (wE_pe hX)) fun C τ vs σ H D k l nv m => h C τ vs σ H k l nv _ fun v H' d hd k2 => m.rt _ ρ v σ H' (q d hd) k2
theorem rs_ifR {t : Expr} {PB : Bool → Prop} {a b : List Stmt} (ht : EB S ρ t PB) (ha : PB true → RB S ρ a Z) (hb : PB false → RB S ρ b Z) : RS S ρ (.If t a b pos) Z :=
  rs_of (t := tIfS (wT S t) (wB S a) (wB S b)) (fun X hX => ps_if (wT_pt hX) (wB_pss hX) (wB_pss hX)) fun C τ vs σ H D k l nv m => ht C τ vs σ H k l nv _ fun c H' hc k2 => by
    cases c with
    | true => exact iteT (ha hc C τ vs σ H' D k2 l nv m)
    | false => exact iteF (hb hc C τ vs σ H' D k2 l nv m)
theorem rs_parR (i j : Nat) {x y : Str} {PL : List PyData → Prop} {px py pt pt2 : Pos} {kt k2} (h : ERA S ρ [a, b] PL) (q : ∀ ds, PL ds → ∃ d1 d2, ds = [d1, d2] ∧ Z.nx ((ρ.set i (.im d1)).set j (.im d2))) (hi : S.N[i]? = some x := by rfl) (hj : S.N[j]? = some y := by rfl) (hnd : S.N.Nodup := by walk_at "kd nd") (hij : i ≠ j := by decide) (hx : S.sc.names.lookup x = some .local := by rfl) (hy : S.sc.names.lookup y = some .local := by rfl)
    (hw : swappedStores [.Tuple [.Name x px, .Name y py] kt pt] (.Tuple [a, b] k2 pt2) (env0 S.sc) = pure (some [x, y]) := by rfl)
    (hs : ∀ X : Cx, swapsWithSole [.Tuple [.Name x px, .Name y py] kt pt] (.Tuple [a, b] k2 pt2) pos.line X.env = pure false := by intro _; rfl) :
    RS S ρ (.Assign [.Tuple [.Name x px, .Name y py] kt pt] (.Tuple [a, b] k2 pt2) pos) Z :=
  rs_of (t := tPar i j (wA S [a, b])) (fun X hX => ps_par hX.calm (by rw [hX.N]; exact hnd) (by rw [hX.N]; exact hi) (by rw [hX.N]; exact hj) hij (by rw [hX.sc]; exact hx) (by rw [hX.sc]; exact hy) (wA_pa hX) ((swap_env hX.sc).trans hw) (hs X)) fun C τ vs σ H D k l nv m => h C τ vs σ H k l nv _ fun ws H' ds hd lw k3 => by
    obtain ⟨d1, d2, rfl, hq⟩ := q ds hd
    match ws, lw with
    | [v, w], _ =>
      refine ⟨v, w, rfl, m.nx _ _ H' hq ?_⟩
      have k3' : Ok S.K C (.im d2 :: .im d1 :: (τ ++ ρ)) (some w :: some v :: (vs ++ σ)) H' := k3
      have k5 : Ok S.K C (.im d2 :: (τ ++ ρ.set i (.im d1))) (some w :: (vs ++ σ.set i (some v))) H' := by
        have k6 := Ok.set (i := τ.length + i + 1) k3'.swap
        rw [List.set_cons_succ, List.set_cons_succ, off_set, l, List.set_append_right _ _ (Nat.le_add_right _ _), Nat.add_sub_cancel_left] at k6
        exact k6
      have k7 := Ok.set (i := τ.length + j) k5
      rw [off_set, l, List.set_append_right _ _ (Nat.le_add_right _ _), Nat.add_sub_cancel_left] at k7
      exact k7
end
/-! ### the town: a list of two ints that a draw changes -/
def townOk (H : Hp) (p : Addr) : Prop := ∃ a b : Int, 0 ≤ a ∧ H p = some (.lst [.int a, .int b])
def town (p : Addr) : Res where
  ok := fun _ H v fp => v = .ref p ∧ fp = [p] ∧ townOk H p
  keep := by
    rintro B H B' H' v fp ⟨rfl, rfl, a, b, h0, h⟩ _ e
    exact ⟨rfl, rfl, a, b, h0, by rw [e p (by simp)]; exact h⟩
  al := by
    rintro B H v fp ⟨rfl, rfl, a, b, h0, h⟩ q hq
    rw [List.mem_singleton] at hq
    subst hq
    rw [h]
    exact fun z => nomatch z
theorem SlOk.stay {K : PySem.W.Frag} {C : Cz} {B B' H H' : Hp} {s : Sl} {o : Option V} {f : List Addr} {pt : Addr} (h1 : SlOk K C B B H s o f) (nv : noV s = true) (np : pt ∉ f) (e : ∀ a x, H a = some x → a ≠ pt → H' a = some x) (b : Ex B B') (hb : ∀ p ∈ f, B' p = none) : SlOk K C B' B' H' s o f := by
  cases s with
  | no => exact h1
  | im d => obtain ⟨z, v, e1, k⟩ := h1; exact ⟨z, v, e1, k.up b⟩
  | vw d => cases nv
  | al ds => cases nv
  | ow ds =>
    obtain ⟨q, xs, e1, rfl, hn, hq, z⟩ := h1
    exact ⟨q, xs, e1, rfl, hn, e _ _ hq (fun y => np (by simp [y])), z.up b⟩
  | yw ds =>
    obtain ⟨q, xs, e1, rfl, hn, hq, z, _⟩ := h1
    exact ⟨q, xs, e1, rfl, hn, e _ _ hq (fun y => np (by simp [y])), z.up b, hb q (by simp)⟩
  | rs R =>
    obtain ⟨v, e1, k⟩ := h1
    refine ⟨v, e1, R.keep k b fun q hq => ?_⟩
    cases z : H q with
    | none => exact absurd z (R.al k q hq)
    | some x => exact e _ _ z (fun y => np (y ▸ hq))
  | vr A => cases nv
  | og Z =>
    obtain ⟨q, xs, e1, rfl, hn, hq, z⟩ := h1
    exact ⟨q, xs, e1, rfl, hn, e _ _ hq (fun y => np (by simp [y])), Z.keep z b⟩
/-- the town turns -/
theorem Sls.turn {K : PySem.W.Frag} {C : Cz} {B B' H H' : Hp} {ρ : List Sl} {σ : List (Option V)} {fp : List Addr} {i : Nat} {pt : Addr} (h : Sls K C B B H ρ σ fp) (nd : fp.Nodup) (ei : ρ[i]? = some (.rs (town pt))) (eo : σ[i]? = some (some (.ref pt))) (nv : ∀ s ∈ ρ, noV s = true)
    (e : ∀ a x, H a = some x → a ≠ pt → H' a = some x) (b : Ex B B') (hb : ∀ p ∈ fp, B' p = none) (tk : townOk H' pt) : Sls K C B' B' H' ρ σ fp := by
  induction h generalizing i with
  | nil => simp at ei
  | @cons s1 o1 f1 g1 ρ1 σ1 h1 h2 ih =>
    obtain ⟨n1, n2, n3⟩ := List.nodup_append.mp nd
    have all : ∀ {ρ2 : List Sl} {σ2 : List (Option V)} {g : List Addr}, Sls K C B B H ρ2 σ2 g → (∀ s ∈ ρ2, noV s = true) → pt ∉ g → (∀ p ∈ g, B' p = none) → Sls K C B' B' H' ρ2 σ2 g := by
      intro ρ2 σ2 g hs
      induction hs with
      | nil => intro _ _ _; exact .nil
      | cons q1 q2 ih2 =>
        intro hv hn hp
        exact .cons (q1.stay (hv _ List.mem_cons_self) (fun z => hn (List.mem_append_left _ z)) e b fun p z => hp p (List.mem_append_left _ z)) (ih2 (fun s z => hv s (List.mem_cons_of_mem _ z)) (fun z => hn (List.mem_append_right _ z)) fun p z => hp p (List.mem_append_right _ z))
    cases i with
    | zero =>
      simp at ei eo
      subst ei eo
      obtain ⟨v, e1, rfl, rfl, _⟩ := h1
      exact .cons ⟨_, rfl, rfl, rfl, tk⟩ (all h2 (fun s z => nv s (List.mem_cons_of_mem _ z)) (fun z => n3 pt (by simp) pt z rfl) fun p z => hb p (List.mem_append_right _ z))
    | succ i =>
      obtain ⟨o2, f2, e2, ⟨v, e1, rfl, rfl, _⟩, z⟩ := h2.get (i := i) (by simpa using ei)
      exact .cons (h1.stay (nv _ List.mem_cons_self) (fun y => n3 pt y pt (z pt (by simp)) rfl) e b fun p z => hb p (List.mem_append_left _ z)) (ih n2 (by simpa using ei) (by simpa using eo) (fun s z => nv s (List.mem_cons_of_mem _ z)) fun p z => hb p (List.mem_append_right _ z))
/-- what a def that draws promises: it is handed the script, the town, and more -/
def spT (K : PySem.W.Frag) (Pre : PyData → List PyData → Prop) (R : PyData → List PyData → PyData → Prop) : Sp := fun vs H Q _ => ∃ B v0 p vs1 d0 ds1, vs = v0 :: .ref p :: vs1 ∧ Ex B H ∧ B p = none ∧ townOk H p ∧ Dt K B v0 d0 ∧ DtA K B vs1 ds1 ∧ Pre d0 ds1 ∧
  ∀ d v H' B', R d0 ds1 d → Ex B B' → Ex B' H' → (∀ a o, H a = some o → a ≠ p → H' a = some o) → (∀ a, H' a = none → H a = none) → (∀ a x, B' a = some x → B a = some x ∨ H a = none) → townOk H' p → Dt K B' v d → Q v H'
def FnT (M : Md) (k : Nat) (x : Str) (Pre : PyData → List PyData → Prop) (R : PyData → List PyData → PyData → Prop) : Prop :=
  ∃ f fd ps, FnOk M.P M.w M.K M.mg M.base (L2N.CX M.P M.w) k f fd ps (spT M.K Pre R) ∧ M.mg x = some (.ref f) ∧ PySem.W.keepIn M.K (.ref f) = true ∧ Binds M.K fd ps []
section
variable {S : Sh} {ρ : List Sl} {e a b o : Expr} {pos : Pos} {P : PyData → Prop} {Z : Pst}
theorem er_draw (j : Nat) {x y : Str} {es : List Expr} {k : Nat} {Pre : PyData → List PyData → Prop} {R : PyData → List PyData → PyData → Prop} {d0 : PyData} {ds1 : List PyData} {p p2 : Pos} {pt : Addr} (hF : FnT S.toMd k x Pre R)
    (h0 : VE S ρ e (.im d0)) (h1 : VA S ρ es (ds1.map Sl.im)) (hp : Pre d0 ds1) (hR : ∀ d, R d0 ds1 d → P d) (hk : k ≤ S.k := by walk_at "kd lvl") (hg : S.sc.names.lookup x = some .globalImplicit := by rfl) (hj : ρ[j]? = some (.rs (town pt)) := by rfl) (hN : S.N[j]? = some y := by rfl) (hv : Vis S.sc y := by walk_at "kd vis") (nvr : ρ.all noV = true := by rfl)
    (hdb : (x == ("__debug__" : Str)) = false := by decide) (hd : (y == ("__debug__" : Str)) = false := by decide) (hcd : (y == ("__classdict__" : Str)) = false := by decide)
    (he : ∀ X : Cx, starEach (e :: .Name y p2 :: es) X.env = (false, eval e X.env) :: starEach (.Name y p2 :: es) X.env := by intro _; rfl) (hpl : ∀ X : Cx, (backTo pos (starEach (.Name y p2 :: es) X.env)).any (·.1) = false := by intro _; rfl) :
    ER S ρ (.Call (.Name x p) (e :: .Name y p2 :: es) [] pos) P := by
  obtain ⟨f, fd, ps, F, hm, hkp, hb⟩ := hF
  intro C τ vs σ H kk l nv Q q
  refine ⟨tCall (spT S.K Pre R) [] S.E (tCons (wE S e) (tCons (tVar j) (wA S es))), fun X hX => ?_, h0 C τ vs σ H kk l _ fun v0 H0 k0 => ?_⟩
  · refine pe_call (CX := L2N.CX S.P S.w) (k := k) (f := f) (fd := fd) (ps := ps) (ds := []) ?_ (hX.room.mono hk) (by show X.env.scope.names.lookup x = _; rw [hX.sc]; exact hg) (by rw [hX.mg]; exact hm) (by rw [hX.K]; exact hkp) (by rw [hX.K]; exact hb) .nil (pass_S hX) (pa_cons (wE_pe hX) (pa_cons (pe_var (by rw [hX.N]; exact hN) (by rw [hX.sc]; exact hv) hd hcd) (wA_pa hX) rfl) (he X)) hdb (he X) (hpl X)
    rw [hX.prog, hX.w, hX.K, hX.mg, hX.base]
    exact F
  · -- where the town stands
    have hpt : σ[j]? = some (some (.ref pt)) := by
      obtain ⟨B, G, fp, k1⟩ := kk
      obtain ⟨o, f1, e1, ⟨v, e2, rfl, _⟩, _⟩ := k1.sls.get (off_get (τ := τ) hj)
      rw [l, List.getElem?_append_right (Nat.le_add_right _ _), Nat.add_sub_cancel_left] at e1
      rw [e1, e2]
    refine ⟨.ref pt, hpt, h1 C (_ :: τ) (some v0 :: vs) σ H0 k0 (congrArg (· + 1) l) _ fun ws H1 lw k1 => ?_⟩
    rw [List.length_map] at lw
    have k1' : Ok S.K C ((ds1.map Sl.im).reverse ++ (.im d0 :: (τ ++ ρ))) (ws.reverse.map some ++ (some v0 :: (vs ++ σ))) H1 := k1
    obtain ⟨B, G, fp, k2, hd1⟩ := k1'.rev lw
    obtain ⟨f0, g0, ef, ⟨_, u, eu, hd0⟩, k3⟩ := k2.tail
    cases eu
    obtain ⟨ot, ft, et, ⟨vt, evt, rfl, rfl, tk⟩, hft⟩ := k3.sls.get (off_get (τ := τ) hj)
    have bp : B pt = none := (k3.own pt (hft pt (by simp))).1
    have hep : C.He pt = none ∨ pt ∈ C.W := (k3.own pt (hft pt (by simp))).2
    refine ⟨B, v0, pt, ws, d0, ds1, by rw [List.append_nil], k3.bh, bp, tk, hd0, hd1, hp, fun d v H' B' r b h e dm n tk' hv' => q v H' d (hR d r) ?_⟩
    -- the state behind it
    have kb := k3.blind (nv_all nv nvr)
    have ownp : ∀ p ∈ g0, B' p = none := fun p hp => by
      cases z : B' p with
      | none => rfl
      | some x =>
        rcases n p x z with y | y
        · rw [(kb.own p hp).1] at y; cases y
        · exact absurd y (kb.sls.al p hp)
    have hpt2 : (vs ++ σ)[τ.length + j]? = some (some (.ref pt)) := by
      rw [l, List.getElem?_append_right (Nat.le_add_right _ _), Nat.add_sub_cancel_left]
      exact hpt
    have ks : OkB S.K C B' B' g0 (τ ++ ρ) (vs ++ σ) H' := by
      refine ⟨kb.b.trans b, Ex.refl _, h, fun a o z w => ?_, fun a x z => ?_, fun a z => kb.dom a (dm a z), kb.nd, fun p hp => ⟨ownp p hp, (kb.own p hp).2⟩, kb.sls.turn kb.nd (off_get (τ := τ) hj) hpt2 (nv_all nv nvr) e b ownp tk'⟩
      · refine e a o (kb.e a o z w) fun y => ?_
        subst y
        rcases hep with y | y
        · rw [y] at z; cases z
        · exact w y
      · rcases n a x z with y | y
        · exact kb.n a x y
        · exact .inr (kb.dom a y)
    exact ks.put hv'
end
end Kd

set_option Elab.async false
set_option linter.all false
set_option maxRecDepth 100000
namespace Kd
open PySem L2
open Evl (Ex ex_l ex_t ex_rd fresh_back)
/-! ### a def that draws, by its body -/
def PstT (R : PyData → Prop) (p : Addr) : Pst := ⟨fun _ => False, fun r ρ => ∃ d, r = .im d ∧ R d ∧ ρ[1]? = some (.rs (town p)), fun _ => False, fun _ => False, fun _ => False⟩
def slotsT (n : Nat) (d0 : PyData) (p : Addr) (ds1 : List PyData) : List Sl := .im d0 :: .rs (town p) :: (ds1.map Sl.im ++ List.replicate (n - (ds1.length + 2)) .no)
theorem fn_okT {M : Md} {x qual : Str} {st : Stmt} {f : Addr} {fd : FuncData} {N ps : List Str} {k : Nat} {Pre : PyData → List PyData → Prop} {R : PyData → List PyData → PyData → Prop} (F : Fun M.K x qual st f fd) (hm : M.mg x = some (.ref f)) (hb : Binds M.K fd ps []) (sc : FnScope N ps (defScope st)) (len : ∀ d0 ds, Pre d0 ds → ds.length + 2 = ps.length)
    (body : ∀ E p d0 ds, Pre d0 ds → RB (M.sh N (defScope st) k E) (slotsT N.length d0 p ds) (defBody st) (PstT (R d0 ds) p)) : FnT M (k + 1) x Pre R := by
  refine ⟨f, fd, ps, F.okN sc (fun vs H Q E h => ?_) (fun cdv A outer s H vs Q E hr h => ?_), hm, F.kp, hb⟩
  · obtain ⟨B, v0, p, vs1, d0, ds1, rfl, _, _, _, _, hd1, hp, _⟩ := h
    have := len d0 ds1 hp
    have := hd1.len
    simp
    omega
  · obtain ⟨B, v0, p, vs1, d0, ds1, rfl, hB, bp, tk, hd0, hd1, hp, q⟩ := h
    refine ⟨wB (M.sh N (defScope st) k E) (defBody st), wB_pss ⟨rfl, rfl, rfl, rfl, rfl, rfl, rfl, rfl, hr, L2N.takes_of rfl rfl rfl rfl, passes_of rfl, fun _ _ => rfl, fun _ => ⟨rfl, rfl⟩⟩, ?_⟩
    have k0 : Ok M.K ⟨B, fun a => if a = p then none else H a, []⟩ (slotsT N.length d0 p ds1) (L2.start N (v0 :: .ref p :: vs1)) H := by
      refine ⟨B, B, [p], Ex.refl _, Ex.refl _, hB, fun a o z _ => ?_, fun a o z => .inl z, fun a z => ?_, by simp, fun a ha => ?_, ?_⟩
      · have z' : (if a = p then none else H a) = some o := z
        split at z'
        · cases z'
        · exact z'
      · show (if a = p then none else H a) = none
        split
        · rfl
        · exact z
      · rw [List.mem_singleton] at ha
        subst ha
        exact ⟨bp, .inl (by show (if a = a then none else H a) = none; rw [if_pos rfl])⟩
      · unfold slotsT L2.start
        have l1 := hd1.len
        have e1 : (v0 :: V.ref p :: vs1).length = ds1.length + 2 := by simp [l1]
        rw [e1]
        exact .cons (f := []) (g := [p]) ⟨rfl, v0, rfl, hd0⟩ (.cons (f := [p]) (g := []) ⟨_, rfl, rfl, rfl, tk⟩ (Sls.ofData hd1 (Sls.ofNo _)))
    refine body E p d0 ds1 hp _ [] [] _ H _ k0 rfl (fun _ z => nomatch z) ⟨fun _ _ _ e => e.elim, fun r ρ v σ H' e k1 => ?_, fun _ _ _ e => e.elim, fun _ _ _ e => e.elim, fun _ _ _ _ _ e => e.elim⟩
    obtain ⟨d, rfl, hR, h1⟩ := e
    obtain ⟨B', G', fp', k2, hd'⟩ := k1.head
    obtain ⟨o, f1, e1, ⟨u, _, _, _, tk'⟩, _⟩ := k2.sls.get (i := 1) h1
    refine q d v H' B' hR k2.b k2.bh (fun a x z hap => k2.e a x (by show (if a = p then none else H a) = some x; rw [if_neg hap]; exact z) (fun y => nomatch y)) (fun a z => ?_) (fun a x z => ?_) tk' hd'
    · by_cases hap : a = p
      · subst hap
        obtain ⟨_, _, _, z'⟩ := tk'
        rw [z] at z'
        cases z'
      · have := k2.dom a z
        have z' : (if a = p then none else H a) = none := this
        rw [if_neg hap] at z'
        exact z'
    · rcases k2.n a x z with y | y
      · exact .inl y
      · by_cases hap : a = p
        · subst hap
          have := (k2.own a (by
            obtain ⟨o', f', _, ⟨_, _, _, rfl, _⟩, hf⟩ := k2.sls.get (i := 1) h1
            exact hf a (by simp))).1
          rw [this] at z
          cases z
        · have y' : (if a = p then none else H a) = none := y
          rw [if_neg hap] at y'
          exact .inr y'
/-! ### loops and comprehensions over a range whose end is drawn -/
section
variable {S : Sh} {ρ : List Sl} {tg e elt : Expr} {pos : Pos} {Z : Pst}
/-- range(e), e open -/
def IR (S : Sh) (ρ : List Sl) (tg it : Expr) (Pn : Nat → Prop) (d : Nat → Nat → PyData) : Prop := ∀ (C : Cz) (τ : List Sl) (vs σ : List (Option V)) (H : Hp), Ok S.K C (τ ++ ρ) (vs ++ σ) H → τ.length = vs.length → (∀ s ∈ τ, noV s = true) →
  ∀ R : It → Hp → Prop, (∀ (n : Nat) (J : It) (H1 : Hp) (zs : List Sl) (oz : List (Option V)), Pn n → zs.length = oz.length → (∀ s ∈ zs, noV s = true) → Ok S.K C (zs ++ (τ ++ ρ)) (oz ++ (vs ++ σ)) H1 →
    (∀ i l os H2, Ok S.K C (zs ++ l) (oz ++ os) H2 → (i < n → J.go i H2 ∧ ∀ x H3, J.yld i H2 x H3 → Ok S.K C (.im (d n i) :: (zs ++ l)) (some x :: (oz ++ os)) H3) ∧ (n ≤ i → J.stop i H2)) → R J H1) →
    ∃ wi : TI, (∀ X, S.Has X → PI X tg it wi) ∧ wi σ H R
theorem ir_of {n : Nat} {d : Nat → PyData} {it : Expr} (h : IW S ρ tg it n d) : IR S ρ tg it (· = n) (fun _ => d) := fun C τ vs σ H k l nv R q => h C τ vs σ H k l R fun J H1 zs oz lz nz k1 turn => q n J H1 zs oz rfl lz nz k1 turn
theorem ir_range1 {P : PyData → Prop} {Pn : Nat → Prop} {p : Pos} (hm : S.mg "range" = none) (ha : ER S ρ e P) (hP : ∀ d, P d → ∃ n : Nat, d = .int n ∧ n ≤ 1000000 ∧ Pn n) (hg : S.sc.names.lookup ("range" : Str) = some .globalImplicit := by rfl)
    (hse : ∀ X : Cx, starEach [e] X.env = (false, eval e X.env) :: starEach [] X.env := by intro _; rfl) : IR S ρ tg (.Call (.Name "range" p) [e] [] pos) Pn (fun _ i => .int i) := fun C τ vs σ H k l nv R q =>
  ⟨iRng1 (tCons (wE S e) tNil), fun X hX => pi_range1 (by show X.env.scope.names.lookup _ = _; rw [hX.sc]; exact hg) (by rw [hX.mg]; exact hm) (pa_cons (wE_pe hX) pa_nil (hse X)) (hse X), ha C τ vs σ H k l nv _ fun v H1 d hd k1 => by
    obtain ⟨n, rfl, hn, hPn⟩ := hP d hd
    have e1 := k1.int
    subst e1
    refine ⟨n, rfl, by omega, by omega, q n (Itr 0 ((n : Int)).toNat) H1 [] [] hPn rfl (fun _ z => nomatch z) k1.tail fun i l os H2 k2 => ⟨fun hi => ⟨?_, fun x H3 y => ?_⟩, fun hi => ?_⟩⟩
    · show i < ((n : Int)).toNat
      omega
    · obtain ⟨e1, e2⟩ := y
      subst e1 e2
      rw [show (0 : Int) + (i : Int) = i by omega]
      exact k2.flat (.int _)
    · show ((n : Int)).toNat ≤ i
      omega⟩
theorem rs_forR {it : Expr} {body : List Stmt} {Pn : Nat → Prop} {d : Nat → Nat → PyData} (hw : IR S ρ tg it Pn d) (Inv : Nat → Nat → List Sl → Prop) (h0 : ∀ n, Pn n → Inv n 0 ρ)
    (hs : ∀ n i ρ1, Pn n → i < n → Inv n i ρ1 → ∃ ρ2 ix, GD S ρ1 tg (d n i) ρ2 ix ∧ RB S ρ2 body { Z with nx := Inv n (i + 1), ct := Inv n (i + 1), bk := Z.nx }) (hd : ∀ n ρ1, Pn n → Inv n n ρ1 → Z.nx ρ1)
    (hfs : ∀ (X : Cx) x, foldedSetIterable it X.env x = pure x := by intro _ _; rfl) : RS S ρ (.For tg it body [] pos) Z :=
  rs_of (t := tFor (wI S tg it) (wG S tg) (wB S body)) (fun X hX => ps_for hX.own hX.calm (wI_pi hX) (wG_pg hX) (wB_pss hX) (hfs X)) fun C τ vs σ H D k l nv m => hw C τ vs σ H k l nv _ fun n J H1 zs oz hn lz nz k1 turn => by
    refine ⟨fun i mm σ' H' => mm = n - i ∧ i ≤ n ∧ ∃ ρ', Inv n i ρ' ∧ Ok S.K C (zs ++ (τ ++ ρ')) (oz ++ (vs ++ σ')) H', ⟨n, by omega, Nat.zero_le _, ρ, h0 n hn, k1⟩, ?_⟩
    rintro i mm σ' H' ⟨rfl, hi, ρ', hI, k2⟩
    obtain ⟨t1, t2⟩ := turn i _ _ H' k2
    have drop : ∀ {l : List Sl} {os : List (Option V)} {H5 : Hp}, Ok S.K C (zs ++ l) (oz ++ os) H5 → Ok S.K C l os H5 := by
      intro l os H5 k6
      clear turn k1 k2 t1 t2 nz
      induction zs generalizing oz with
      | nil =>
        have e : oz = [] := List.eq_nil_of_length_eq_zero lz.symm
        subst e
        exact k6
      | cons z zs ih =>
        match oz, lz with
        | o :: oz, lz => exact ih oz (Nat.succ.inj lz) k6.tail
    by_cases hlt : i < n
    · obtain ⟨g1, g2⟩ := t1 hlt
      obtain ⟨ρ2, ix, hg, hb⟩ := hs n i ρ' hn hlt hI
      refine .inr ⟨g1, fun σ2 H2 => ∃ ρ2, Inv n (i + 1) ρ2 ∧ Ok S.K C (zs ++ (τ ++ ρ2)) (oz ++ (vs ++ σ2)) H2, fun σ2 H2 ⟨ρ3, hI3, k3⟩ => ⟨n - (i + 1), by omega, rfl, hlt, ρ3, hI3, k3⟩, fun x H3 y => ?_⟩
      have k4 := g2 x H3 y
      rw [← List.append_assoc zs, ← List.append_assoc oz] at k4
      refine hg C (zs ++ τ) (oz ++ vs) σ' H3 x k4 (by rw [List.length_append, List.length_append, l, lz]) _ fun σ4 H4 _ k5 => ?_
      refine hb C (zs ++ τ) (oz ++ vs) σ4 H4 _ k5 (by rw [List.length_append, List.length_append, l, lz]) (fun s hs => (List.mem_append.mp hs).elim (nz s) (nv s)) ⟨fun ρ5 σ5 H5 q k6 => ⟨ρ5, q, by rw [← List.append_assoc, ← List.append_assoc]; exact k6⟩, fun r ρ5 v σ5 H5 q k6 => ?_, fun ρ5 σ5 H5 q k6 => m.nx ρ5 σ5 H5 q (drop (by rw [← List.append_assoc, ← List.append_assoc]; exact k6)), fun ρ5 σ5 H5 q k6 => ⟨ρ5, q, by rw [← List.append_assoc, ← List.append_assoc]; exact k6⟩, fun c cv ρ5 σ5 H5 q hc k6 => m.ex c cv ρ5 σ5 H5 q hc (drop (by rw [← List.append_assoc, ← List.append_assoc]; exact k6))⟩
      have drop1 : Ok S.K C (r :: (τ ++ ρ5)) (some v :: (vs ++ σ5)) H5 := by
        rw [List.append_assoc, List.append_assoc] at k6
        clear k5 k4 turn k2 k1 t1 t2 g2 nz drop
        induction zs generalizing oz with
        | nil =>
          have e : oz = [] := List.eq_nil_of_length_eq_zero lz.symm
          subst e
          exact k6
        | cons z zs ih =>
          match oz, lz with
          | o :: oz, lz => exact ih oz (Nat.succ.inj lz) k6.drop2
      exact m.rt r ρ5 v σ5 H5 q drop1
    · have e : i = n := by omega
      subst e
      exact .inl ⟨t2 (Nat.le_refl _), m.nx ρ' σ' H' (hd i ρ' hn hI) (drop k2)⟩
/-- [elt for tg in it], elt drawn: each item is told by its turn -/
theorem er_lc (own : List (Str × Nat)) {it : Expr} {sc : Scope} {Pn : Nat → Prop} {d : Nat → Nat → PyData} {P : PyData → Prop} (hw : IR S ρ tg it Pn d) (I : Nat → Nat → List PyData → Prop) (h0 : ∀ n, Pn n → I n 0 []) (hz : ∀ n, Pn n → n ≤ 100000) (ok : BlkOk S.N S.sc sc own) (hnd : S.N.Nodup) (hno : ∀ w ∈ own.map (·.2), ρ[w]? = some .no)
    (hb : ∀ n i acc, Pn n → i < n → acc.length = i → I n i acc → ∃ ρ2 ix, (∀ j ∈ ix, j ∈ own.map (·.2)) ∧ wipeS ρ2 (own.map (·.2)) = wipeS ρ (own.map (·.2)) ∧ GD (S.blk sc) (wipeS ρ (own.map (·.2))) tg (d n i) ρ2 ix ∧ ER (S.blk sc) ρ2 elt (fun y => I n (i + 1) (acc ++ [y])))
    (hd : ∀ n acc, Pn n → acc.length = n → I n n acc → P (.list acc))
    (hfs : ∀ (X : Cx) x, foldedSetIterable it X.env x = pure x := by intro _ _; rfl) : ER S ρ (.ListComp elt [⟨tg, it, [], 0⟩] sc pos) P := fun C τ vs σ H k l nv Q q =>
  ⟨tLc (wI S tg it) (wG (S.blk sc) tg) tYes (wE (S.blk sc) elt) (own.map (·.2)), fun X hX => pe_lc hX.calm (by rw [hX.N]; exact hnd) (wI_pi hX) (by rw [hX.N, hX.sc]; exact ok) (fun s H C cl fp => wG_pg (Sh.blk_has hX s H C cl fp)) (fun s H C cl fp => pts_nil) (fun s H C cl fp => wE_pe (Sh.blk_has hX s H C cl fp)) (hfs X),
    hw C τ vs σ H k l nv _ fun n J H1 zs oz hn lz nz k1 turn D hD => by
    have kn : wipeS ρ (own.map (·.2)) = ρ := by
      generalize own.map (·.2) = ws at hno
      induction ws with
      | nil => rfl
      | cons w ws ih =>
        show (wipeS ρ ws).set w .no = ρ
        rw [ih fun w' h' => hno w' (List.mem_cons_of_mem _ h')]
        apply List.ext_getElem?
        intro j
        rw [List.getElem?_set]
        split
        · rename_i e
          subst e
          rw [hno w List.mem_cons_self]
          simp
          have := hno w List.mem_cons_self
          exact (List.getElem?_eq_some_iff.mp this).1
        · rfl
    refine ⟨fun i m H' => m = n - i ∧ i ≤ n ∧ ∃ acc, acc.length = i ∧ I n i acc ∧ Ok S.K C (zs ++ (.yw acc :: (τ ++ ρ))) (oz ++ (some (.ref D) :: (vs ++ σ))) H', ⟨n, by omega, Nat.zero_le _, [], rfl, h0 n hn, ?_⟩, ?_⟩
    · obtain ⟨B, G, fp, k2⟩ := k1
      exact (k2.putYw hD .nil).rotIn lz
    · rintro i m H' ⟨rfl, hi, acc, la, hI, k2⟩
      obtain ⟨t1, t2⟩ := turn i _ _ H' k2
      have drop : ∀ {l : List Sl} {os : List (Option V)} {H5 : Hp}, Ok S.K C (zs ++ l) (oz ++ os) H5 → Ok S.K C l os H5 := by
        intro l os H5 k6
        clear turn k1 k2 t1 t2 nz
        induction zs generalizing oz with
        | nil =>
          have e : oz = [] := List.eq_nil_of_length_eq_zero lz.symm
          subst e
          exact k6
        | cons z zs ih =>
          match oz, lz with
          | o :: oz, lz => exact ih oz (Nat.succ.inj lz) k6.tail
      by_cases hlt : i < n
      · obtain ⟨g1, g2⟩ := t1 hlt
        obtain ⟨ρ2, ix, hix, hwp, hg, he⟩ := hb n i acc hn hlt la hI
        refine .inr ⟨g1, fun H5 => ∃ acc, acc.length = i + 1 ∧ I n (i + 1) acc ∧ Ok S.K C (zs ++ (.yw acc :: (τ ++ ρ))) (oz ++ (some (.ref D) :: (vs ++ σ))) H5, fun H5 k5 => ⟨n - (i + 1), by omega, rfl, hlt, k5⟩, fun x H3 y => ?_⟩
        have k4 := g2 x H3 y
        have k4' : Ok S.K C ((.im (d n i) :: (zs ++ (.yw acc :: τ))) ++ ρ) ((some x :: (oz ++ (some (.ref D) :: vs))) ++ σ) H3 := by
          simpa using k4
        have k4w : Ok (S.blk sc).K C (.im (d n i) :: ((zs ++ (.yw acc :: τ)) ++ wipeS ρ (own.map (·.2)))) (some x :: ((oz ++ (some (.ref D) :: vs)) ++ L2.wipe σ (own.map (·.2)))) H3 := by
          have k4x := k4'.wipe (by simp [l, lz]) (own.map (·.2))
          exact k4x
        refine hg C (zs ++ (.yw acc :: τ)) (oz ++ (some (.ref D) :: vs)) (L2.wipe σ (own.map (·.2))) H3 x k4w (by simp [l, lz]) _ fun σ2 H4 w2 k5 => ?_
        have w3 : L2.wipe σ2 (own.map (·.2)) = L2.wipe σ (own.map (·.2)) := by
          rw [w2 _ hix]
          generalize own.map (·.2) = ws
          have tw : ∀ (ws us : List Nat), (∀ u ∈ us, u ∈ ws) → L2.wipe (L2.wipe σ ws) us = L2.wipe σ ws := by
            intro ws us
            induction us with
            | nil => intro _; rfl
            | cons u us ih =>
              intro h
              show (L2.wipe (L2.wipe σ ws) us).set u none = _
              rw [ih fun v hv => h v (List.mem_cons_of_mem _ hv)]
              have hu := h u List.mem_cons_self
              clear h ih
              induction ws with
              | nil => cases hu
              | cons a as ih2 =>
                show ((L2.wipe σ as).set a none).set u none = (L2.wipe σ as).set a none
                by_cases hua : u = a
                · subst hua
                  rw [List.set_set]
                · rw [List.set_comm _ _ (fun z => hua z.symm), ih2 ((List.mem_cons.mp hu).resolve_left hua)]
          exact tw ws ws fun _ h => h
        refine ⟨w3, ?_⟩
        have back : ∀ {a : List Sl} {oa : List (Option V)} {H6 : Hp}, a.length = oa.length → Ok S.K C (a ++ (τ ++ ρ2)) (oa ++ (vs ++ σ2)) H6 → Ok S.K C (a ++ (τ ++ ρ)) (oa ++ (vs ++ σ)) H6 := by
          intro a oa H6 la k7
          rw [← List.append_assoc, ← List.append_assoc] at k7
          have k8 := k7.wipe (by simp [l, la]) (own.map (·.2))
          rw [hwp, kn, w3] at k8
          have k9 : Ok S.K C ((a ++ τ) ++ ρ) ((oa ++ vs) ++ σ) H6 := by
            refine k8.repl (by simp [wipe_length]) fun j => ?_
            by_cases hj : j < (oa ++ vs).length
            · left
              rw [List.getElem?_append_left hj, List.getElem?_append_left hj]
            · rw [List.getElem?_append_right (by omega), List.getElem?_append_right (by omega)]
              by_cases hm : j - (oa ++ vs).length ∈ own.map (·.2)
              · right
                have hl : (a ++ τ).length = (oa ++ vs).length := by simp [l, la]
                rw [List.getElem?_append_right (by omega), hl]
                exact hno _ hm
              · left
                exact (wipe_get hm).symm
          rw [List.append_assoc, List.append_assoc] at k9
          exact k9
        unfold tYes
        dsimp only
        rw [if_pos rfl]
        refine he C _ _ σ2 H4 k5 (by simp [l, lz]) (fun s hs => ?_) _ fun y H6 dy hy k7 => ?_
        · rcases List.mem_append.mp hs with z | z
          · exact nz s z
          · rcases List.mem_cons.mp z with z | z
            · rw [z]; rfl
            · exact nv s z
        · have k8 : Ok S.K C ((.im dy :: zs) ++ (.yw acc :: (τ ++ ρ2))) ((some y :: oz) ++ (some (.ref D) :: (vs ++ σ2))) H6 := by
            have k7b : Ok S.K C _ _ H6 := k7
            simpa using k7b
          have k9 := (k8.rotOut (by simp [lz])).swap
          obtain ⟨p, xs, e1, hp, lx, k10⟩ := k9.grew
          have eD : D = p := V.ref.inj e1
          subst eD
          have hz' := hz n hn
          refine ⟨xs, hp, Evl.sz_lt (by omega), acc ++ [dy], by simp [la], hy, ?_⟩
          have k11 := k10.rotIn lz
          have k12 : Ok S.K C ((zs ++ [.yw (acc ++ [dy])]) ++ (τ ++ ρ2)) ((oz ++ [some (.ref D)]) ++ (vs ++ σ2)) (upd H6 D (.lst (xs ++ [y]))) := by simpa using k11
          have := back (by simp [lz]) k12
          simpa using this
      · have e : i = n := by omega
        subst e
        exact .inl ⟨t2 (Nat.le_refl _), q _ _ _ (hd i acc hn la hI) (drop k2).old.freeze⟩⟩
end
end Kd

set_option Elab.async false
set_option linter.all false
set_option maxRecDepth 100000
namespace Kd
open PySem L2
open Evl (Ex ex_l ex_t ex_rd fresh_back)
local macro_rules | `(tactic| walk_at "kd ar") => `(tactic| first | omega | decide | (simp; done) | (simp; omega))
/-! ### the walked things as lists of data -/
def IX (S : Sh) (ρ : List Sl) (tg it : Expr) (ds : List PyData) : Prop := IW S ρ tg it ds.length (fun i => ds.getD i .none)
section
variable {S : Sh} {ρ : List Sl} {tg e e2 it elt : Expr} {ifs : List Expr} {pos : Pos} {P : Pst} {α β : Type}
theorem iw_eq {n n' : Nat} {d d' : Nat → PyData} (h : IW S ρ tg it n d) (e : n = n') (f : ∀ i, i < n → d i = d' i) : IW S ρ tg it n' d' := by
  subst e
  intro C τ vs σ H k l R q
  refine h C τ vs σ H k l R fun J H1 zs oz lz nz k1 turn => q J H1 zs oz lz nz k1 fun i l os H2 k2 => ?_
  obtain ⟨t1, t2⟩ := turn i l os H2 k2
  exact ⟨fun hi => ⟨(t1 hi).1, fun x H3 y => by rw [← f i hi]; exact (t1 hi).2 x H3 y⟩, t2⟩
theorem ix_tup {ds : List PyData} (h : VE S ρ e (.im (.tuple ds))) : IX S ρ tg e ds := iw_tup h
theorem ix_list {ds : List PyData} (h : VE S ρ e (.im (.list ds))) : IX S ρ tg e ds := iw_list h
theorem getD_map_range {n i : Nat} {f : Nat → PyData} (h : i < n) : ((List.range n).map f).getD i .none = f i := by
  rw [List.getD_eq_getElem?_getD, List.getElem?_map, List.getElem?_range h]
  rfl
theorem ix_range1 {n : Int} {p : Pos} (hm : S.mg "range" = none) (ha : VE S ρ e (.im (.int n))) (hn : n ≤ 4611686018427387903 := by walk_at "kd ar") (hl : -4611686018427387904 ≤ n := by walk_at "kd ar") (hg : S.sc.names.lookup ("range" : Str) = some .globalImplicit := by rfl)
    (hse : ∀ X : Cx, starEach [e] X.env = (false, eval e X.env) :: starEach [] X.env := by intro _; rfl) : IX S ρ tg (.Call (.Name "range" p) [e] [] pos) ((List.range n.toNat).map fun (i : Nat) => PyData.int (i : Int)) :=
  iw_eq (iw_range1 hm ha hn hl hg hse) (by simp) fun i hi => (getD_map_range (f := fun (i : Nat) => PyData.int (i : Int)) hi).symm
theorem ix_range2 {a b : Int} {p : Pos} (hm : S.mg "range" = none) (ha : VE S ρ e (.im (.int a))) (hb : VE S ρ e2 (.im (.int b))) (h1 : a ≤ 4611686018427387903 := by walk_at "kd ar") (h2 : -4611686018427387904 ≤ a := by walk_at "kd ar") (h3 : b ≤ 4611686018427387903 := by walk_at "kd ar") (h4 : -4611686018427387904 ≤ b := by walk_at "kd ar") (hg : S.sc.names.lookup ("range" : Str) = some .globalImplicit := by rfl)
    (hse : ∀ X : Cx, starEach [e, e2] X.env = (false, eval e X.env) :: starEach [e2] X.env := by intro _; rfl) (hse2 : ∀ X : Cx, starEach [e2] X.env = (false, eval e2 X.env) :: starEach [] X.env := by intro _; rfl) :
    IX S ρ tg (.Call (.Name "range" p) [e, e2] [] pos) ((List.range (b - a).toNat).map fun (i : Nat) => PyData.int (a + (i : Int))) :=
  iw_eq (iw_range2 hm ha hb h1 h2 h3 h4 hg hse hse2) (by simp) fun i hi => (getD_map_range (f := fun (i : Nat) => PyData.int (a + (i : Int))) hi).symm
theorem ix_str {x : Str} (h : VE S ρ e (.im (.str x))) : IX S ρ tg e (x.cps.toList.map fun c => PyData.str ⟨#[c]⟩) :=
  iw_eq (iw_str h) (by simp) fun i hi => by
    have hi' : i < x.cps.toList.length := by simpa using hi
    rw [List.getD_eq_getElem?_getD, List.getD_eq_getElem?_getD, List.getElem?_map, List.getElem?_eq_getElem hi']
    rfl
theorem ix_zipT {elts : List Expr} {kk : Nat} {tpos p : Pos} {xs : List α} {ys : List β} {f : α → PyData} {g : β → PyData} (hm : S.mg "zip" = none) (ha : VE S ρ e (.im (.tuple (xs.map f)))) (hb : VE S ρ e2 (.im (.tuple (ys.map g)))) (hg : S.sc.names.lookup ("zip" : Str) = some .globalImplicit := by rfl)
    (hse : ∀ X : Cx, starEach [e, e2] X.env = (false, eval e X.env) :: starEach [e2] X.env := by intro _; rfl) (hse2 : ∀ X : Cx, starEach [e2] X.env = (false, eval e2 X.env) :: starEach [] X.env := by intro _; rfl) (hpl : ∀ X : Cx, (backTo pos (starEach [e2] X.env)).any (·.1) = false := by intro _; rfl) :
    IX S ρ (.Tuple elts kk tpos) (.Call (.Name "zip" p) [e, e2] [] pos) ((xs.zip ys).map fun q => PyData.tuple [f q.1, g q.2]) :=
  iw_eq (iw_zipT hm ha hb hg hse hse2 hpl) (by simp) fun i hi => by
    have h1 : i < xs.length := by simp at hi; omega
    have h2 : i < ys.length := by simp at hi; omega
    simp only [List.getD_eq_getElem?_getD, List.getElem?_map, List.getElem?_zip_eq_some, List.getElem?_eq_getElem h1, List.getElem?_eq_getElem h2]
    rw [show (xs.zip ys)[i]? = some (xs[i], ys[i]) from List.getElem?_zip_eq_some.mpr ⟨List.getElem?_eq_getElem h1, List.getElem?_eq_getElem h2⟩]
    rfl
theorem fold_map (xs : List α) (f : Nat → Bool) (g : Nat → PyData) (f' : α → Bool) (g' : α → PyData) (h : ∀ i x, xs[i]? = some x → f i = f' x ∧ g i = g' x) : fold xs.length f g = (xs.filter f').map g' := by
  have key : ∀ k, k ≤ xs.length → fold k f g = ((xs.take k).filter f').map g' := by
    intro k
    induction k with
    | zero => intro _; rfl
    | succ k ih =>
      intro hk
      have hk' : k < xs.length := hk
      have hx := List.getElem?_eq_getElem hk'
      obtain ⟨h1, h2⟩ := h k _ hx
      rw [List.take_succ, hx, List.filter_append, List.map_append, ← ih (Nat.le_of_lt hk')]
      cases hf : f' xs[k] with
      | true =>
        rw [fold_yes (by rw [h1, hf])]
        simp [hf, h2]
      | false =>
        rw [fold_no (by rw [h1, hf])]
        simp [hf]
  rw [key _ (Nat.le_refl _), List.take_length]
def noAt (ρ : List Sl) (own : List (Str × Nat)) : Bool := own.all fun p => match ρ[p.2]? with | some .no => true | _ => false
theorem noAt_ok {ρ : List Sl} {own : List (Str × Nat)} (h : noAt ρ own = true) : ∀ w ∈ own.map (·.2), ρ[w]? = some .no := by
  intro w hw
  obtain ⟨p, hp, rfl⟩ := List.mem_map.mp hw
  have h1 := List.all_eq_true.mp h p hp
  split at h1
  · assumption
  · cases h1
theorem ve_comp (own : List (Str × Nat)) {sc : Scope} {xs : List α} {inj : α → PyData} (hw : IX S ρ tg it (xs.map inj)) (f : α → Bool) (g : α → PyData)
    (hb : ∀ x ∈ xs, ∃ ρ2 ix, (∀ j ∈ ix, j ∈ own.map (·.2)) ∧ wipeS ρ2 (own.map (·.2)) = wipeS ρ (own.map (·.2)) ∧ GD (S.blk sc) (wipeS ρ (own.map (·.2))) tg (inj x) ρ2 ix ∧ VTs (S.blk sc) ρ2 ifs (f x) ∧ (f x = true → VE (S.blk sc) ρ2 elt (.im (g x))))
    (hz : xs.length ≤ 100000 := by walk_at "kd ar") (ok : BlkOk S.N S.sc sc own := by walk_at "kd blk") (hnd : S.N.Nodup := by walk_at "kd nd") (hno : noAt ρ own = true := by rfl)
    (hfs : ∀ (X : Cx) x, foldedSetIterable it X.env x = pure x := by intro _ _; rfl) : VE S ρ (.ListComp elt [⟨tg, it, ifs, 0⟩] sc pos) (.ow ((xs.filter f).map g)) := by
  have e0 : ∀ i : Nat, i < xs.length → ∃ x, xs[i]? = some x ∧ x ∈ xs ∧ (xs.map inj).getD i .none = inj x := fun i hi => ⟨xs[i], List.getElem?_eq_getElem hi, List.getElem_mem hi, by rw [List.getD_eq_getElem?_getD, List.getElem?_map, List.getElem?_eq_getElem hi]; rfl⟩
  have key := ve_lc (S := S) (ρ := ρ) (tg := tg) (it := it) (elt := elt) (ifs := ifs) (pos := pos) own (sc := sc) hw (fun i => match xs[i]? with | some x => f x | none => false) (fun i => match xs[i]? with | some x => g x | none => .none) (by simpa using hz) ok hnd (noAt_ok hno) (fun i hi => by
    obtain ⟨x, e1, hx, e2⟩ := e0 i (by simpa using hi)
    rw [e1, e2]
    exact hb x hx) hfs
  rw [show (xs.map inj).length = xs.length by simp] at key
  rw [fold_map xs _ _ f g (fun i x hx => by rw [hx]; exact ⟨rfl, rfl⟩)] at key
  exact key
/-- without a test -/
theorem ve_compN (own : List (Str × Nat)) {sc : Scope} {xs : List α} {inj : α → PyData} (hw : IX S ρ tg it (xs.map inj)) (g : α → PyData)
    (hb : ∀ x ∈ xs, ∃ ρ2 ix, (∀ j ∈ ix, j ∈ own.map (·.2)) ∧ wipeS ρ2 (own.map (·.2)) = wipeS ρ (own.map (·.2)) ∧ GD (S.blk sc) (wipeS ρ (own.map (·.2))) tg (inj x) ρ2 ix ∧ VE (S.blk sc) ρ2 elt (.im (g x)))
    (hz : xs.length ≤ 100000 := by walk_at "kd ar") (ok : BlkOk S.N S.sc sc own := by walk_at "kd blk") (hnd : S.N.Nodup := by walk_at "kd nd") (hno : noAt ρ own = true := by rfl)
    (hfs : ∀ (X : Cx) x, foldedSetIterable it X.env x = pure x := by intro _ _; rfl) : VE S ρ (.ListComp elt [⟨tg, it, [], 0⟩] sc pos) (.ow (xs.map g)) := by
  have key := ve_comp (S := S) (ρ := ρ) (tg := tg) (it := it) (elt := elt) (ifs := []) (pos := pos) own (sc := sc) hw (fun _ => true) g (fun x hx => by
    obtain ⟨ρ2, ix, h1, h2, h3, h4⟩ := hb x hx
    exact ⟨ρ2, ix, h1, h2, h3, vts_nil, fun _ => h4⟩) hz ok hnd hno hfs
  rw [List.filter_eq_self.mpr (fun _ _ => rfl)] at key
  exact key
theorem rs_asgComp (i : Nat) {x : Str} {p spos : Pos} (own : List (Str × Nat)) {sc : Scope} {xs : List α} {inj : α → PyData} (hw : IX S ρ tg it (xs.map inj)) (f : α → Bool) (g : α → PyData)
    (hb : ∀ x ∈ xs, ∃ ρ2 ix, (∀ j ∈ ix, j ∈ own.map (·.2)) ∧ wipeS ρ2 (own.map (·.2)) = wipeS ρ (own.map (·.2)) ∧ GD (S.blk sc) (wipeS ρ (own.map (·.2))) tg (inj x) ρ2 ix ∧ VTs (S.blk sc) ρ2 ifs (f x) ∧ (f x = true → VE (S.blk sc) ρ2 elt (.im (g x))))
    (q : P.nx (ρ.set i (.ow ((xs.filter f).map g)))) (hz : xs.length ≤ 100000 := by walk_at "kd ar") (ok : BlkOk S.N S.sc sc own := by walk_at "kd blk") (hnd : S.N.Nodup := by walk_at "kd nd") (hno : noAt ρ own = true := by rfl)
    (hi : S.N[i]? = some x := by rfl) (hx : S.sc.names.lookup x = some .local := by rfl) (hk : S.sc.kind = .function := by rfl) (hl : (p.line == pos.line) = true := by rfl) (ha : (sc.names.any fun (n, k) => n == x && (k == .local || k == .cell)) = false := by decide +kernel)
    (hfs : ∀ (X : Cx) x, foldedSetIterable it X.env x = pure x := by intro _ _; rfl) : RS S ρ (.Assign [.Name x p] (.ListComp elt [⟨tg, it, ifs, 0⟩] sc pos) spos) P := by
  have e0 : ∀ i : Nat, i < xs.length → ∃ x, xs[i]? = some x ∧ x ∈ xs ∧ (xs.map inj).getD i .none = inj x := fun i hi => ⟨xs[i], List.getElem?_eq_getElem hi, List.getElem_mem hi, by rw [List.getD_eq_getElem?_getD, List.getElem?_map, List.getElem?_eq_getElem hi]; rfl⟩
  refine rs_asgLc i own hw (fun i => match xs[i]? with | some x => f x | none => false) (fun i => match xs[i]? with | some x => g x | none => .none) (by simpa using hz) ok hnd (noAt_ok hno) (fun i hi => ?_) ?_ hi hx hk hl ha hfs
  · obtain ⟨x, e1, hx, e2⟩ := e0 i (by simpa using hi)
    rw [e1, e2]
    exact hb x hx
  · rw [show (xs.map inj).length = xs.length by simp]
    rw [fold_map xs _ _ f g (fun i x hx => by rw [hx]; exact ⟨rfl, rfl⟩)]
    exact q
theorem rs_asgCompN (i : Nat) {x : Str} {p spos : Pos} (own : List (Str × Nat)) {sc : Scope} {xs : List α} {inj : α → PyData} (hw : IX S ρ tg it (xs.map inj)) (g : α → PyData)
    (hb : ∀ x ∈ xs, ∃ ρ2 ix, (∀ j ∈ ix, j ∈ own.map (·.2)) ∧ wipeS ρ2 (own.map (·.2)) = wipeS ρ (own.map (·.2)) ∧ GD (S.blk sc) (wipeS ρ (own.map (·.2))) tg (inj x) ρ2 ix ∧ VE (S.blk sc) ρ2 elt (.im (g x)))
    (q : P.nx (ρ.set i (.ow (xs.map g)))) (hz : xs.length ≤ 100000 := by walk_at "kd ar") (ok : BlkOk S.N S.sc sc own := by walk_at "kd blk") (hnd : S.N.Nodup := by walk_at "kd nd") (hno : noAt ρ own = true := by rfl)
    (hi : S.N[i]? = some x := by rfl) (hx : S.sc.names.lookup x = some .local := by rfl) (hk : S.sc.kind = .function := by rfl) (hl : (p.line == pos.line) = true := by rfl) (ha : (sc.names.any fun (n, k) => n == x && (k == .local || k == .cell)) = false := by decide +kernel)
    (hfs : ∀ (X : Cx) x, foldedSetIterable it X.env x = pure x := by intro _ _; rfl) : RS S ρ (.Assign [.Name x p] (.ListComp elt [⟨tg, it, [], 0⟩] sc pos) spos) P :=
  rs_asgComp i own hw (fun _ => true) g (fun x hx => by
    obtain ⟨ρ2, ix, h1, h2, h3, h4⟩ := hb x hx
    exact ⟨ρ2, ix, h1, h2, h3, vts_nil, fun _ => h4⟩) (by rw [List.filter_eq_self.mpr (fun _ _ => rfl)]; exact q) hz ok hnd hno hi hx hk hl ha hfs
/-- a for over data, by the part taken -/
theorem rs_forX {body : List Stmt} {xs : List α} {inj : α → PyData} (hw : IX S ρ tg it (xs.map inj)) (Inv : List α → List Sl → Prop) (h0 : Inv [] ρ)
    (hs : ∀ pre x post ρ1, xs = pre ++ x :: post → Inv pre ρ1 → ∃ ρ2 ix, GD S ρ1 tg (inj x) ρ2 ix ∧ RB S ρ2 body { P with nx := Inv (pre ++ [x]), ct := Inv (pre ++ [x]), bk := P.nx }) (hd : ∀ ρ1, Inv xs ρ1 → P.nx ρ1)
    (hfs : ∀ (X : Cx) x, foldedSetIterable it X.env x = pure x := by intro _ _; rfl) : RS S ρ (.For tg it body [] pos) P :=
  rs_for hw (fun i ρ1 => Inv (xs.take i) ρ1) h0 (fun i ρ1 hi h => by
    have hi' : i < xs.length := by simpa using hi
    obtain ⟨ρ2, ix, hg, hb⟩ := hs (xs.take i) xs[i] (xs.drop (i + 1)) ρ1 (by rw [List.getElem_cons_drop hi', List.take_append_drop]) h
    refine ⟨ρ2, ix, ?_, ?_⟩
    · rw [List.getD_eq_getElem?_getD, List.getElem?_map, List.getElem?_eq_getElem hi']
      exact hg
    · rw [List.take_succ, List.getElem?_eq_getElem hi']
      exact hb) (fun ρ1 h => hd ρ1 (by rw [List.length_map, List.take_length] at h; exact h)) hfs
/-! ### a choice, with both answers told -/
theorem ve_ite {t a b : Expr} {c : Bool} {d1 d2 : PyData} (ht : VT S ρ t c) (ha : c = true → VE S ρ a (.im d1)) (hb : c = false → VE S ρ b (.im d2)) : VE S ρ (.IfExp t a b pos) (.im (if c = true then d1 else d2)) :=
  ve_if ht (fun h => by rw [if_pos h]; exact ha h) fun h => by rw [if_neg (by rw [h]; decide)]; exact hb h
theorem ve_iteI {t a b : Expr} {c : Bool} {i j : Int} (ht : VT S ρ t c) (ha : c = true → VE S ρ a (.im (.int i))) (hb : c = false → VE S ρ b (.im (.int j))) : VE S ρ (.IfExp t a b pos) (.im (.int (if c = true then i else j))) :=
  ve_if ht (fun h => by rw [if_pos h]; exact ha h) fun h => by rw [if_neg (by rw [h]; decide)]; exact hb h
/-! ### an own list of two ints becomes the town -/
theorem Sls.recast {K : PySem.W.Frag} {C : Cz} {B G H : Hp} {ρ : List Sl} {σ : List (Option V)} {fp : List Addr} {s s2 : Sl} {i : Nat} (h : Sls K C B G H ρ σ fp) (e : ρ[i]? = some s) (f : ∀ o fp, σ[i]? = some o → SlOk K C B G H s o fp → SlOk K C B G H s2 o fp) : Sls K C B G H (ρ.set i s2) σ fp := by
  induction h generalizing i with
  | nil => simp at e
  | cons h1 h2 ih =>
    cases i with
    | zero =>
      simp at e
      subst e
      exact .cons (f _ _ rfl h1) h2
    | succ i => exact .cons h1 (ih (by simpa using e) fun o fp eo => f o fp (by simpa using eo))
theorem rb_town (i : Nat) {rest : List Stmt} {a b : Int} (e : ρ[i]? = some (.ow [.int a, .int b])) (h0 : 0 ≤ a) (h : ∀ p, RB S (ρ.set i (.rs (town p))) rest P) : RB S ρ rest P := fun C τ vs σ H D k l nv m => by
  obtain ⟨B, G, fp, k1⟩ := k
  obtain ⟨o, f, e1, q, hf⟩ := k1.sls.get (off_get (τ := τ) e)
  obtain ⟨p, xs, rfl, rfl, hn, hp, hd⟩ := q
  refine h p C τ vs σ H D ?_ l nv m
  rw [← off_set]
  refine ⟨B, G, fp, k1.b, k1.g, k1.h, k1.e, k1.n, k1.dom, k1.nd, k1.own, k1.sls.recast (off_get (τ := τ) e) fun o f eo q => ?_⟩
  obtain ⟨p', xs', rfl, rfl, _, hp', hd'⟩ := q
  rw [e1] at eo
  cases eo
  have e3 : xs' = [.int a, .int b] := DtA.ints (ns := [a, b]) hd'
  subst e3
  exact ⟨_, rfl, rfl, rfl, a, b, h0, hp'⟩
/-- a slot is forgotten -/
theorem rb_no (i : Nat) {rest : List Stmt} (h : RB S (ρ.set i .no) rest P) : RB S ρ rest P := fun C τ vs σ H D k l nv m => by
  refine h C τ vs σ H D ?_ l nv m
  by_cases hi : i < ρ.length
  · obtain ⟨B, G, fp, k1⟩ := k
    have k2 := Ok.set (i := τ.length + i) (Ok.pushNo ⟨B, G, fp, k1⟩ ((vs ++ σ)[τ.length + i]'(by
      have := k1.sls.len
      simp at this ⊢
      omega)))
    rw [off_set, List.set_getElem_self] at k2
    exact k2
  · rw [List.set_eq_of_length_le (by omega)]
    exact k
end
end Kd

set_option Elab.async false
set_option linter.all false
set_option maxRecDepth 100000
namespace Kd
open PySem L2 PySem.Spec PyProof.Rows
open Evl (Ex ex_l ex_t ex_rd fresh_back)
/-! ### slices -/
def cutD (ds : List PyData) (lo hi : Option Int) : List PyData := (ds.drop (HT.sIx ds.length 0 lo)).take (HT.sIx ds.length ds.length hi - HT.sIx ds.length 0 lo)
theorem DtA.cut {K : PySem.W.Frag} {H : Hp} {vs : List V} {ds : List PyData} (h : DtA K H vs ds) (lo hi : Option Int) : DtA K H (cutV vs lo hi) (cutD ds lo hi) := by
  unfold cutV cutD
  rw [h.len]
  exact (h.drop _).take _
section
variable {S : Sh} {ρ : List Sl} {e a b : Expr} {s1 s2 s3 : Sl} {pos p2 : Pos}
def wO (S : Sh) (e : Option Expr) : TO := fun σ H Q => ∃ t, (∀ X, S.Has X → PO X e t) ∧ t σ H Q
theorem wO_po {X : Cx} {e : Option Expr} (h : S.Has X) : PO X e (wO S e) := ⟨fun pins s σ H Q I ⟨_, ht, q⟩ => (ht X h).run pins s σ H Q I q⟩
def VO (S : Sh) (ρ : List Sl) (e : Option Expr) (o : Option Int) : Prop := ∀ (C : Cz) (τ : List Sl) (vs σ : List (Option V)) (H : Hp), Ok S.K C (τ ++ ρ) (vs ++ σ) H → τ.length = vs.length → ∀ Q : Option Int → Hp → Prop, (∀ H', Ok S.K C (τ ++ ρ) (vs ++ σ) H' → Q o H') → wO S e σ H Q
theorem vo_none : VO S ρ none none := fun C τ vs σ H k l Q q => ⟨tNoPart, fun X hX => po_none, q H k⟩
theorem vo_some {i : Int} (h : VE S ρ e (.im (.int i))) : VO S ρ (some e) (some i) := fun C τ vs σ H k l Q q => ⟨tPart (wE S e), fun X hX => po_some (wE_pe hX), h C τ vs σ H k l _ fun v H' k2 => by
  have e1 := k2.int
  subst e1
  exact ⟨i, rfl, q H' k2.tail⟩⟩
def SD (S : Sh) (s1 : Sl) (lo hi : Option Int) (s3 : Sl) : Prop := ∀ (C : Cz) (l : List Sl) (os : List (Option V)) (v1 : V) (H : Hp), Ok S.K C (s1 :: l) (some v1 :: os) H → ∀ Q : VK, (∀ v H', Ok S.K C (s3 :: l) (some v :: os) H' → Q v H') → wSl S v1 lo hi H Q
theorem ve_slice {lo hi : Option Expr} {l u : Option Int} (ha : VE S ρ a s1) (hl : VO S ρ lo l) (hu : VO S ρ hi u) (ho : SD S s1 l u s3 := by walk_at "kd sd") : VE S ρ (.Subscript a (.Slice lo hi none p2) pos) s3 :=
  ve_of (t := tSl (wSl S) (wE S a) (wO S lo) (wO S hi)) (fun X hX => pe_slice (wSl_sl hX) (wE_pe hX) (wO_po hX) (wO_po hX)) fun C τ vs σ H k l Q q => ha C τ vs σ H k l _ fun v1 H1 k1 =>
    hl C (s1 :: τ) (some v1 :: vs) σ H1 k1 (congrArg (· + 1) l) _ fun H2 k2 => hu C (s1 :: τ) (some v1 :: vs) σ H2 k2 (congrArg (· + 1) l) _ fun H3 k3 => ho C _ _ v1 H3 k3 Q q
theorem sd_tup {ds : List PyData} {lo hi : Option Int} : SD S (.im (.tuple ds)) lo hi (.im (.tuple (cutD ds lo hi))) := fun C l os v1 H k Q q => by
  obtain ⟨B, G, fp, k2, hd⟩ := k.head
  cases hd with
  | @tup p xs _ hs ha =>
    refine ⟨rSlA S.K, fun X hX => by rw [← hX.K]; exact sl_tupA, p, xs, rfl, ex_t k2.bh hs, fun hw => q _ _ (k2.put ?_), fun hw t ht => q _ _ ?_⟩
    · have e1 : cutD ds lo hi = ds := by
        unfold cutD
        rw [← ha.len, hw.1, hw.2, List.drop_zero, Nat.sub_zero, ha.len, List.take_length]
      rw [e1]
      exact .tup hs ha
    · exact (k2.lay ht).put (.tup (.inl (.inl upd_same)) ((ha.cut lo hi).up (Ex.new (Ok.fresh k2 ht).1)))
theorem sd_lst {ds : List PyData} {lo hi : Option Int} (h1 : s1 = .im (.list ds) ∨ s1 = .al ds ∨ s1 = .ow ds) : SD S s1 lo hi (.ow (cutD ds lo hi)) := fun C l os v1 H k Q q => by
  obtain ⟨B, G, fp, p, xs, k2, rfl, hs, hd⟩ := items_of k h1
  exact ⟨rSlL S.K, fun X hX => by rw [← hX.K]; exact sl_list, p, xs, rfl, hs, fun t ht => q _ _ (k2.putOwn ht (hd.cut lo hi))⟩
theorem sd_str {x : Str} {lo hi : Option Int} (h : x.length ≤ 100000) : SD S (.im (.str x)) lo hi (.im (.str (cutS x lo hi))) := fun C l os v1 H k Q q => by
  have e1 := k.str
  subst e1
  exact ⟨rSlS, fun X hX => sl_str, x, rfl, Evl.sz_of h, q _ _ (k.tail.flat (.str _))⟩
theorem cutD_nat (ds : List PyData) (i j : Nat) : cutD ds (some (i : Int)) (some (j : Int)) = (ds.drop i).take (j - i) := by
  unfold cutD
  rw [HT.sIx_nat, HT.sIx_nat]
  by_cases h : i ≤ ds.length
  · rw [Nat.min_eq_left h]
    by_cases h2 : j ≤ ds.length
    · rw [Nat.min_eq_left h2]
    · rw [Nat.min_eq_right (by omega), List.take_of_length_le (by simp), List.take_of_length_le (by simp; omega)]
  · rw [show min i ds.length = ds.length by omega, List.drop_length, List.drop_of_length_le (by omega)]
    simp
/-! ### tuples: +, * -/
theorem od_catT {d1 d2 : List PyData} (hz : d1.length + d2.length ≤ 100000) : OD S (binaryOp .Add) (.im (.tuple d1)) (.im (.tuple d2)) (.im (.tuple (d1 ++ d2))) := fun C l os v1 v2 H k Q q => by
  obtain ⟨B, G, fp, k3, h1, h2⟩ := Ok.two k
  obtain ⟨f1, g1, _, _, k4⟩ := k3.tail
  obtain ⟨f2, g2, _, _, k5⟩ := k4.tail
  cases h1 with
  | @tup a xs _ hs ha =>
    cases h2 with
    | @tup b ys _ ht hb =>
      have l1 := ha.len
      have l2 := hb.len
      refine ⟨rCatA S.K, fun X hX => by rw [← hX.K]; exact op_catA, a, b, xs, ys, rfl, rfl, ex_t k3.bh hs, ex_t k3.bh ht, Evl.sz_of (by omega), fun e => q _ _ (k5.put ?_), fun _ e => q _ _ (k5.put ?_), fun _ _ t htt => q _ _ ?_⟩
      · subst e
        cases ha
        exact .tup ht hb
      · subst e
        cases hb
        rw [List.append_nil]
        exact .tup hs ha
      · exact (k5.lay htt).put (.tup (.inl (.inl upd_same)) ((ha.app hb).up (Ex.new (Ok.fresh k5 htt).1)))
theorem od_catL {d1 d2 : List PyData} (h1 : s1 = .al d1 ∨ s1 = .ow d1) (h2 : s2 = .al d2 ∨ s2 = .ow d2) (hz : d1.length + d2.length ≤ 100000) : OD S (binaryOp .Add) s1 s2 (.ow (d1 ++ d2)) := fun C l os v1 v2 H k Q q => by
  have k1 : Ok S.K C (.al d2 :: .al d1 :: l) (some v2 :: some v1 :: os) H := by
    have k0 : Ok S.K C (.al d2 :: s1 :: l) (some v2 :: some v1 :: os) H := by
      rcases h2 with rfl | rfl
      · exact k
      · exact k.toAl
    rcases h1 with rfl | rfl
    · exact k0
    · exact k0.swap.toAl.swap
  obtain ⟨B, G, fp, k2⟩ := k1
  obtain ⟨f1, g1, _, ⟨_, p2, ys, e2, hp2, hd2⟩, k3⟩ := k2.tail
  obtain ⟨f2, g2, _, ⟨_, p1, xs, e1, hp1, hd1⟩, k4⟩ := k3.tail
  cases e1
  cases e2
  have l1 := hd1.len
  have l2 := hd2.len
  exact ⟨rCat, fun X hX => op_cat, p1, p2, xs, ys, rfl, rfl, k4.h _ _ hp1, k4.h _ _ hp2, Evl.sz_of (by omega), fun t ht => q _ _ (k4.putOwn ht (hd1.app hd2))⟩
theorem DtA.rep {K : PySem.W.Frag} {H : Hp} {vs : List V} {ds : List PyData} (h : DtA K H vs ds) : ∀ n : Nat, DtA K H (List.replicate n vs).flatten (List.replicate n ds).flatten
  | 0 => .nil
  | n + 1 => by
    rw [List.replicate_succ, List.replicate_succ, List.flatten_cons, List.flatten_cons]
    exact h.app (DtA.rep h n)
theorem flat_one {α : Type} (x : α) : ∀ n : Nat, (List.replicate n [x]).flatten = List.replicate n x
  | 0 => rfl
  | n + 1 => by rw [List.replicate_succ, List.flatten_cons, flat_one x n]; rfl
/-! t * n, n = 1 or n ≤ 0 -/
theorem tuple_mul1 (l : Addr) (items : Array Value) (n : Nat) (dd : Option Addr) (sl : Array (Option Value)) (u : Tok) :
    Meets (Builtin.«tuple.__mul__» ⟨[.ref l, .int 1 u], []⟩) (fun _ R s => s.heap.get? l = some { cls := .type "tuple", dict := dd, data := .seq items n, slots := sl } ∧ R (.ok (.ret (Value.ref l))) s) :=
  .of_wp fun prog w A R s h => by
    obtain ⟨hp, g, d, tk, os⟩ := s
    obtain ⟨hl, h⟩ := h
    have f1 := AutoSeq1.idx_int
    wp_walk using wpAny_loadPart' hl
    repeat (first
      | (refine wpAny_ite_false (by decide) ?_; wp_walk using wpAny_loadPart' hl)
      | (refine wpAny_ite_true (by simp) ?_; wp_walk using wpAny_loadPart' hl))
    exact ⟨_, rfl, h⟩
theorem tuple_mul0 (l : Addr) (items : Array Value) (n : Nat) (dd : Option Addr) (sl : Array (Option Value)) (x : Int) (u : Tok) (c0 : (decide (x < -(2 ^ 63)) || decide (x ≥ 2 ^ 63)) = false) (c1 : (items.isEmpty || x == 1) = false) (c2 : (decide (x ≤ 0) || items.isEmpty) = true) :
    Meets (Builtin.«tuple.__mul__» ⟨[.ref l, .int x u], []⟩) (fun _ R s => s.heap.get? l = some { cls := .type "tuple", dict := dd, data := .seq items n, slots := sl } ∧
      R (.ok (.ret (Value.ref s.heap.objs.size))) { s with heap := s.heap.push { cls := Value.type "tuple", data := Data.seq #[] }, toks := s.toks }) :=
  .of_wp fun prog w A R s h => by
    obtain ⟨hp, g, d, tk, os⟩ := s
    obtain ⟨hl, h⟩ := h
    have f1 := AutoSeq1.idx_int
    wp_walk using wpAny_loadPart' hl
    repeat (first
      | (refine wpAny_ite_false (decide_eq_false (by rw [c0]; exact Bool.false_ne_true)) ?_; wp_walk using wpAny_loadPart' hl)
      | (refine wpAny_ite_false (decide_eq_false (by rw [c1]; exact Bool.false_ne_true)) ?_; wp_walk using wpAny_loadPart' hl)
      | (refine wpAny_ite_true (decide_eq_true (by rw [c2])) ?_; wp_walk using wpAny_loadPart' hl)
      | (refine wpAny_ite_false (by decide) ?_; wp_walk using wpAny_loadPart' hl))
    exact ⟨_, rfl, h⟩
def rRep1 (K : PySem.W.Frag) : R2 := fun x y H Q => ∃ l xs, x = .ref l ∧ y = .int 1 ∧ SqT K H l xs ∧ Q (.ref l) H
def rRep0 (K : PySem.W.Frag) : R2 := fun x y H Q => ∃ l xs k, x = .ref l ∧ y = .int k ∧ SqT K H l xs ∧ xs ≠ [] ∧ -1000000 ≤ k ∧ k ≤ 0 ∧ ∀ p, H p = none → Q (.ref p) (upd H p (.tup []))
def rRepN (K : PySem.W.Frag) : R2 := fun x y H Q => ∃ l k xs, x = .ref l ∧ y = .int k ∧ SqT K H l xs ∧ xs ≠ [] ∧ 2 ≤ k ∧ (xs.length : Int) * k ≤ 1000000 ∧ ∀ p, H p = none → Q (.ref p) (upd H p (.tup (List.replicate k.toNat xs).flatten))
theorem op_rep1 {X : Cx} : OpR X (binaryOp .Mult) (rRep1 X.K) := by
  intro pins s σ H x y v u Q I rx ry h
  obtain ⟨l, xs, rfl, rfl, hT, q⟩ := h
  cases rx
  obtain ⟨t, rfl⟩ := ry
  obtain ⟨its, r, ⟨⟨cls, dd, data, sl⟩, ho, hc, n, hd⟩, hs⟩ := I.tuple hT
  simp only at hc hd
  subst hc hd
  exact wpAny_binaryOp_repeat_ref (T := "tuple") (U := "int") (by decide) ⟨_, ho, rfl⟩ (fun s' => typeIs_int s' 1 t) noFill_tuple_mul F.fills_int_mul F.slot_int_rmul repeat_tuple F.slot_int_index.lookup
    (call_meets F.slot_int_rmul (typeIs_int s 1 t) F.entry_int_rmul (F.args_int_rmul_2 _ _) (int_rmul_tuple 1 t l its.toArray n dd sl)
      ⟨ho, rfl, ⟨_, ho, rfl⟩, call_meets F.slot_tuple_mul ⟨_, ho, rfl⟩ F.entry_tuple_mul (F.args_tuple_mul_2 _ _) (tuple_mul1 l its.toArray n dd sl t) ⟨ho, ⟨.ref l, H, I, rfl, q⟩⟩⟩)
theorem op_rep0 {X : Cx} : OpR X (binaryOp .Mult) (rRep0 X.K) := by
  intro pins s σ H x y v u Q I rx ry h
  obtain ⟨l, xs, k, rfl, rfl, hT, hne, h1, h2, q⟩ := h
  cases rx
  obtain ⟨t, rfl⟩ := ry
  obtain ⟨its, r, ⟨⟨cls, dd, data, sl⟩, ho, hc, n, hd⟩, hs⟩ := I.tuple hT
  simp only at hc hd
  subst hc hd
  have hi : its.toArray.isEmpty = false := by
    cases its with
    | nil => cases r; exact absurd rfl hne
    | cons a b => rfl
  refine wpAny_binaryOp_repeat_ref (T := "tuple") (U := "int") (by decide) ⟨_, ho, rfl⟩ (fun s' => typeIs_int s' k t) noFill_tuple_mul F.fills_int_mul F.slot_int_rmul repeat_tuple F.slot_int_index.lookup
    (call_meets F.slot_int_rmul (typeIs_int s k t) F.entry_int_rmul (F.args_int_rmul_2 _ _) (int_rmul_tuple k t l its.toArray n dd sl)
      ⟨ho, rfl, ⟨_, ho, rfl⟩, call_meets F.slot_tuple_mul ⟨_, ho, rfl⟩ F.entry_tuple_mul (F.args_tuple_mul_2 _ _) (tuple_mul0 l its.toArray n dd sl k t ?_ ?_ ?_) ⟨ho, ?_⟩⟩)
  · rw [decide_eq_false (by omega), decide_eq_false (by omega)] <;> rfl
  · rw [hi, Bool.false_or]
    exact beq_eq_false_iff_ne.mpr (by omega)
  · rw [decide_eq_true h2, Bool.true_or]
  · exact ⟨.ref s.heap.objs.size, _, I.laid (t' := s.toks) (o := .tup []) (fun b ob q => Heap.get?_push_of_some _ q) (Nat.le_refl _) ⟨Nat.zero_le _, [], .nil, IsTup.new _ _⟩, rfl, q _ (I.hok.fresh (Nat.le_refl _))⟩
theorem op_repN {X : Cx} : OpR X (binaryOp .Mult) (rRepN X.K) := by
  intro pins s σ H x y v u Q I rx ry h
  obtain ⟨l, k, xs, rfl, rfl, hT, hne, h1, hz, q⟩ := h
  cases rx
  obtain ⟨t, rfl⟩ := ry
  obtain ⟨its, r, ⟨⟨cls, dd, data, sl⟩, ho, hc, n, hd⟩, hs⟩ := I.tuple hT
  simp only at hc hd
  subst hc hd
  have hle : its.length = xs.length := r.length.symm
  have hi : its.toArray.isEmpty = false := by
    cases its with
    | nil => cases r; exact absurd rfl hne
    | cons a b => rfl
  have hpos : 1 ≤ xs.length := by
    cases xs with
    | nil => exact absurd rfl hne
    | cons a b => simp
  have hk : k ≤ 1000000 := by
    have : (1 : Int) * k ≤ (xs.length : Int) * k := Int.mul_le_mul_of_nonneg_right (by omega) (by omega)
    omega
  have hsz0 : its.toArray.size = xs.length := by rw [List.size_toArray, hle]
  have hm : ((its.toArray.size : Nat) : Int) * k ≤ 1000000 := by rw [hsz0]; exact hz
  have fl : k.toNat * xs.length ≤ 1000000 := by
    have e : ((k.toNat * xs.length : Nat) : Int) = (xs.length : Int) * k := by
      rw [Int.natCast_mul, Int.toNat_of_nonneg (by omega), Int.mul_comm]
    omega
  have flen : (List.replicate k.toNat its).flatten.length ≤ sizeLine := by
    rw [PyProof.Rows.lm_len_rep_flat, hle, sizeLine_eq]
    omega
  have c0 : (decide (k < -(2 ^ 63)) || decide (k ≥ 2 ^ 63)) = false := by
    rw [decide_eq_false (by omega), decide_eq_false (by omega)] <;> rfl
  have c1 : (its.toArray.isEmpty || k == 1) = false := by
    rw [hi, Bool.false_or]
    exact beq_eq_false_iff_ne.mpr (by omega)
  have c2 : (decide (k ≤ 0) || its.toArray.isEmpty) = false := by
    rw [hi, Bool.or_false]
    exact decide_eq_false (by omega)
  have c4 : Builtin.Tuple.tupleTooMany (((its.toArray.size : Nat) : Int) * k) = false := by
    unfold Builtin.Tuple.tupleTooMany
    rw [sizeLine_eq]
    exact decide_eq_false (by omega)
  refine wpAny_binaryOp_repeat_ref (T := "tuple") (U := "int") (by decide) ⟨_, ho, rfl⟩ (fun s' => typeIs_int s' k t) noFill_tuple_mul F.fills_int_mul F.slot_int_rmul repeat_tuple F.slot_int_index.lookup
    (call_meets F.slot_int_rmul (typeIs_int s k t) F.entry_int_rmul (F.args_int_rmul_2 _ _) (int_rmul_tuple k t l its.toArray n dd sl)
      ⟨ho, rfl, ⟨_, ho, rfl⟩, call_meets F.slot_tuple_mul ⟨_, ho, rfl⟩ F.entry_tuple_mul (F.args_tuple_mul_2 _ _) (tuple_mulW l its.toArray n dd sl k t c0 c1 c2 (by omega) c4 (by rw [size_rep, List.size_toArray]; exact flen)) ⟨ho, ?_⟩⟩)
  rw [size_rep]
  refine ⟨.ref s.heap.objs.size, _, I.laid (t' := s.toks) (o := .tup (List.replicate k.toNat xs).flatten) (fun b ob q => Heap.get?_push_of_some _ q) (Nat.le_refl _) ?_, rfl, q _ (I.hok.fresh (Nat.le_refl _))⟩
  exact ⟨by rw [PyProof.Rows.lm_len_rep_flat, sizeLine_eq]; omega, _, r.rep k.toNat, IsTup.new _ _⟩
theorem od_repT {ds : List PyData} {k : Int} (hne : ds ≠ []) (h0 : -1000000 ≤ k) (hz : (ds.length : Int) * k ≤ 1000000) : OD S (binaryOp .Mult) (.im (.tuple ds)) (.im (.int k)) (.im (.tuple (List.replicate k.toNat ds).flatten)) := fun C l os v1 v2 H kk Q q => by
  have e2 := kk.int
  subst e2
  obtain ⟨B, G, fp, k2, hd⟩ := kk.tail.head
  cases hd with
  | @tup a xs _ hs ha =>
    have hx : xs ≠ [] := fun e => by
      subst e
      cases ha
      exact hne rfl
    by_cases h1 : k = 1
    · subst h1
      refine ⟨rRep1 S.K, fun X hX => by rw [← hX.K]; exact op_rep1, a, xs, rfl, rfl, ex_t k2.bh hs, q _ _ (k2.put ?_)⟩
      rw [show (List.replicate (1 : Int).toNat ds).flatten = ds by simp]
      exact .tup hs ha
    · by_cases h2 : k ≤ 0
      · refine ⟨rRep0 S.K, fun X hX => by rw [← hX.K]; exact op_rep0, a, xs, k, rfl, rfl, ex_t k2.bh hs, hx, h0, h2, fun t ht => q _ _ ?_⟩
        rw [show k.toNat = 0 by omega]
        exact (k2.lay ht).put (.tup (.inl (.inl upd_same)) .nil)
      · refine ⟨rRepN S.K, fun X hX => by rw [← hX.K]; exact op_repN, a, k, xs, rfl, rfl, ex_t k2.bh hs, hx, by omega, by rw [ha.len]; exact hz, fun t ht => q _ _ ?_⟩
        exact (k2.lay ht).put (.tup (.inl (.inl upd_same)) ((ha.rep k.toNat).up (Ex.new (Ok.fresh k2 ht).1)))
/-! ### is of truth values -/
theorem od_isB {c d : Bool} : OD S (compareOp .Is) (.im (.bool c)) (.im (.bool d)) (.im (.bool (decide (c = d)))) := fun C l os v1 v2 H k Q q => by
  have e2 := k.bl
  have e1 := k.tail.bl
  subst e1 e2
  exact ⟨rIsB, fun X _ => op_isBl, c, d, rfl, rfl, q _ _ (k.tail.tail.flat (.bl _))⟩
theorem od_notB {c d : Bool} : OD S (compareOp .IsNot) (.im (.bool c)) (.im (.bool d)) (.im (.bool (!decide (c = d)))) := fun C l os v1 v2 H k Q q => by
  have e2 := k.bl
  have e1 := k.tail.bl
  subst e1 e2
  exact ⟨rNotB, fun X _ => op_notBl, c, d, rfl, rfl, q _ _ (k.tail.tail.flat (.bl _))⟩
/-! ### max, min of ints -/
theorem cd_maxL {ns : List Int} {m : Int} (h1 : s1.dat (.list (ns.map .int))) (hm : m ∈ ns) (ha : ∀ y ∈ ns, y ≤ m) : CD S (.builtin "max") [s1] (.im (.int m)) :=
  cd_of1 (r := rMax S.K) (fun X hX => by rw [← hX.K]; exact cr_max hX.calm) fun C l os v H k Q q => by
    have kd := k.dt h1
    cases kd with
    | lst hs hx =>
      have e := hx.ints
      subst e
      refine ⟨_, ns, rfl, hs, List.length_pos_of_mem hm, fun m' h1 h2 => ?_⟩
      have e : m' = m := Int.le_antisymm (ha m' h1) (h2 m hm)
      subst e
      exact q _ _ (k.tail.flat (.int _))
theorem cd_minL {ns : List Int} {m : Int} (h1 : s1.dat (.list (ns.map .int))) (hm : m ∈ ns) (ha : ∀ y ∈ ns, m ≤ y) : CD S (.builtin "min") [s1] (.im (.int m)) :=
  cd_of1 (r := rMin S.K) (fun X hX => by rw [← hX.K]; exact cr_min hX.calm) fun C l os v H k Q q => by
    have kd := k.dt h1
    cases kd with
    | lst hs hx =>
      have e := hx.ints
      subst e
      refine ⟨_, ns, rfl, hs, List.length_pos_of_mem hm, fun m' h1 h2 => ?_⟩
      have e : m' = m := Int.le_antisymm (h2 m hm) (ha m' h1)
      subst e
      exact q _ _ (k.tail.flat (.int _))
/-- max(xs, default=d) of ints -/
def maxI (d : Int) : List Int → Int
  | [] => d
  | n :: ns => ns.foldl max n
def rMaxDf (K : PySem.W.Frag) : List V → List V → Hp → VK → Prop := fun xs zs H Q => ∃ (a : Addr) (ns : List Int) (d : Int), xs = [.ref a] ∧ zs = [.int d] ∧ SqL K H a (ns.map V.int) ∧ Q (.int (maxI d ns)) H
theorem noDict_ints : ∀ ns : List Int, noDictA (ns.map PyData.int) = true
  | [] => rfl
  | n :: ns => noDict_ints ns
theorem shaped_ints (ns : List Int) : SeqAt.shaped (.tuple (ns.map PyData.int)) = true ∧ SeqAt.shaped (.list (ns.map PyData.int)) = true := by
  have h1 : PyData.canLayAll0 (ns.map PyData.int) = true := by
    induction ns with
    | nil => rfl
    | cons n ns ih => exact ih
  have h2 : PyData.depthAll (ns.map PyData.int) ≤ 1 := by
    clear h1
    induction ns with
    | nil => simp [PyData.depthAll]
    | cons n ns ih =>
      simp only [List.map_cons, PyData.depthAll, PyData.depth]
      omega
  refine ⟨?_, ?_⟩
  · unfold SeqAt.shaped
    exact Bool.and_eq_true_iff.mpr ⟨h1, decide_eq_true (by simp only [PyData.depth]; omega)⟩
  · unfold SeqAt.shaped
    exact Bool.and_eq_true_iff.mpr ⟨h1, decide_eq_true (by simp only [PyData.depth]; omega)⟩
theorem eqv_ints : ∀ ns ms : List Int, PyData.eqvAll (ns.map PyData.int) (ms.map PyData.int) = decide (ns = ms)
  | [], [] => rfl
  | [], m :: ms => rfl
  | n :: ns, [] => rfl
  | n :: ns, m :: ms => by
    show (PyData.eqv (.int n) (.int m) && PyData.eqvAll (ns.map PyData.int) (ms.map PyData.int)) = _
    rw [eqv_ints ns ms]
    show ((n == m) && decide (ns = ms)) = _
    by_cases h : n = m <;> by_cases h2 : ns = ms <;> simp [h, h2]
theorem alike_ints (ns : List Int) : PySem.W.AlikeAll (ns.map PyData.int) := by
  refine ⟨fun x hx y hy => ?_, fun x hx => ?_⟩
  · obtain ⟨i, _, rfl⟩ := List.mem_map.mp hx
    obtain ⟨j, _, rfl⟩ := List.mem_map.mp hy
    rfl
  · obtain ⟨i, _, rfl⟩ := List.mem_map.mp hx
    exact fun z => nomatch z
theorem depth_ints : ∀ ns : List Int, PyData.depthAll (ns.map PyData.int) ≤ 1
  | [] => by simp [PyData.depthAll]
  | n :: ns => by
    have := depth_ints ns
    simp only [List.map_cons, PyData.depthAll, PyData.depth]
    omega
theorem call_maxDf {X : Cx} (hc : X.calm = true) (hr : X.A.units + 64 < cLine) : CallRK X (.builtin "max") ["default"] (rMaxDf X.K) := by
  intro pins s σ H xs zs us ws Q I r1 r2 h
  obtain ⟨a, ns, d, rfl, rfl, hs, q⟩ := h
  obtain ⟨u, rfl, ru⟩ := Vals.one r1
  obtain ⟨w, rfl, rw'⟩ := Vals.one r2
  cases ru
  obtain ⟨its, rv, pl, _⟩ := I.list hs
  have hdp : DpAll X.K H (ns.map V.int) (ns.map PyData.int) := DtA.dp _ _ (noDict_ints ns) (DtA.ofInts ns)
  obtain ⟨as, hra⟩ := Dp.readsAll I _ _ its hdp rv
  refine PySem.W.max_list_default (I.ok.hd hc) pl.isList (xs := ns.map PyData.int) (as := as) (by simpa using hra) (alike_ints ns) (by have := depth_ints ns; omega) (fun e h' tk hk => ?_) (fun y ys i v h' tk bs e hv hrd hk => ?_)
  · have e1 : ns = [] := List.map_eq_nil_iff.mp e
    subst e1
    exact ⟨.int d, H, I.kept hk, rw', q⟩
  · cases ns with
    | nil => cases e
    | cons n ns =>
      cases e
      rw [PySem.W.maxD_ints] at hrd
      cases hrd
      exact ⟨.int (maxI d (n :: ns)), H, I.kept hk, ⟨_, rfl⟩, q⟩
theorem ve_maxDf {e2 : Expr} {ns : List Int} {d : Int} {p kp : Pos} (hm : S.mg "max" = none) (ha : VE S ρ e s1) (h1 : s1.dat (.list (ns.map .int))) (hb : VE S ρ e2 (.im (.int d))) (hg : S.sc.names.lookup ("max" : Str) = some .globalImplicit := by rfl)
    (hse : ∀ X : Cx, starEach [e] X.env = (false, eval e X.env) :: starEach [] X.env := by intro _; rfl) (he : ∀ X : Cx, backTo pos (starEach [e] X.env) = (false, eval e X.env) :: backTo pos (starEach [] X.env) := by intro _; rfl) (hpl : ∀ X : Cx, (backTo pos (starEach [e] X.env)).any (·.1) = false := by intro _; rfl) :
    VE S ρ (.Call (.Name "max" p) [e] [⟨some "default", e2, kp⟩] pos) (.im (.int (maxI d ns))) :=
  ve_of (t := tCKw (rMaxDf S.K) (tCons (wE S e) tNil) (tCons (wE S e2) tNil)) (fun X hX => by
      rw [← hX.K]
      exact pe_callBK (call_maxDf hX.calm hX.room.units) (by show X.env.scope.names.lookup _ = _; rw [hX.sc]; exact hg) (by rw [hX.mg]; exact hm) (by decide +kernel) (pa_cons (wE_pe hX) pa_nil (hse X)) (pk_cons (wE_pe hX) pk_nil) (by decide) (by decide) (he X) (hpl X)) fun C τ vs σ H k l Q q => ha C τ vs σ H k l _ fun v1 H1 k1 =>
    hb C (s1 :: τ) (some v1 :: vs) σ H1 k1 (congrArg (· + 1) l) _ fun v2 H2 k2 => by
      have e2 := k2.int
      subst e2
      have kd := k2.tail.dt h1
      cases kd with
      | lst hs hx =>
        have e := hx.ints
        subst e
        exact ⟨_, ns, d, rfl, rfl, hs, q _ _ (k2.tail.tail.flat (.int _))⟩
end
end Kd

set_option Elab.async false
set_option linter.all false
set_option maxRecDepth 100000
namespace Kd
open PySem L2
open Evl (Ex ex_l ex_t ex_rd fresh_back)
/-! ### kinds -/
@[reducible] def isIntD : PyData → Bool
  | .int _ => true
  | .bool _ => true
  | _ => false
@[reducible] def isBoolD : PyData → Bool
  | .bool _ => true
  | _ => false
@[reducible] def isTupD : PyData → Bool
  | .tuple _ => true
  | _ => false
@[reducible] def isStrD : PyData → Bool
  | .str _ => true
  | _ => false
@[reducible] def isListD : PyData → Bool
  | .list _ => true
  | _ => false
@[reducible] def isDictD : PyData → Bool
  | .dict _ => true
  | _ => false
theorem kit_int (d : PyData) : kitB (tyD d) "int" = some (isIntD d) := by cases d <;> kernel_rfl
theorem kit_bool (d : PyData) : kitB (tyD d) "bool" = some (isBoolD d) := by cases d <;> kernel_rfl
theorem kit_tuple (d : PyData) : kitB (tyD d) "tuple" = some (isTupD d) := by cases d <;> kernel_rfl
theorem kit_str (d : PyData) : kitB (tyD d) "str" = some (isStrD d) := by cases d <;> kernel_rfl
theorem kit_list (d : PyData) : kitB (tyD d) "list" = some (isListD d) := by cases d <;> kernel_rfl
theorem kit_dict (d : PyData) : kitB (tyD d) "dict" = some (isDictD d) := by cases d <;> kernel_rfl
section
variable {S : Sh} {ρ : List Sl} {e a b : Expr} {s1 s2 s3 : Sl} {pos p2 : Pos} {rest : List Expr} {α : Type}
theorem ve_andP {c d : Bool} (ha : VE S ρ a (.im (.bool c))) (hb : VE S ρ (.BoolOp .And (b :: rest) pos) (.im (.bool d))) : VE S ρ (.BoolOp .And (a :: b :: rest) pos) (.im (.bool (c && d))) := ve_and ha fun _ => hb
theorem ve_orP {c d : Bool} (ha : VE S ρ a (.im (.bool c))) (hb : VE S ρ (.BoolOp .Or (b :: rest) pos) (.im (.bool d))) : VE S ρ (.BoolOp .Or (a :: b :: rest) pos) (.im (.bool (c || d))) := ve_or ha fun _ => hb
theorem vw_andP {c d : Bool} (ha : VT S ρ a c) (hb : VW S ρ (.BoolOp .And (b :: rest) pos) d) : VW S ρ (.BoolOp .And (a :: b :: rest) pos) (c && d) := vw_and ha fun _ => hb
theorem vw_orP {c d : Bool} (ha : VT S ρ a c) (hb : VW S ρ (.BoolOp .Or (b :: rest) pos) d) : VW S ρ (.BoolOp .Or (a :: b :: rest) pos) (c || d) := vw_or ha fun _ => hb
theorem ve_iteP {t : Expr} {c : Bool} {d1 d2 : PyData} (ht : VT S ρ t c) (ha : VE S ρ a (.im d1)) (hb : VE S ρ b (.im d2)) : VE S ρ (.IfExp t a b pos) (.im (if c = true then d1 else d2)) := ve_ite ht (fun _ => ha) fun _ => hb
theorem ve_iteIP {t : Expr} {c : Bool} {i j : Int} (ht : VT S ρ t c) (ha : VE S ρ a (.im (.int i))) (hb : VE S ρ b (.im (.int j))) : VE S ρ (.IfExp t a b pos) (.im (.int (if c = true then i else j))) := ve_iteI ht (fun _ => ha) fun _ => hb
theorem ve_andF (ha : VE S ρ a (.im (.bool false))) : VE S ρ (.BoolOp .And (a :: b :: rest) pos) (.im (.bool false)) := ve_is (ve_and (d := false) ha fun h => nomatch h) rfl
theorem ve_orT (ha : VE S ρ a (.im (.bool true))) : VE S ρ (.BoolOp .Or (a :: b :: rest) pos) (.im (.bool true)) := ve_is (ve_or (d := false) ha fun h => nomatch h) rfl
theorem vw_andF (ha : VT S ρ a false) : VW S ρ (.BoolOp .And (a :: b :: rest) pos) false := vw_and (d := false) ha fun h => nomatch h
theorem vw_orT (ha : VT S ρ a true) : VW S ρ (.BoolOp .Or (a :: b :: rest) pos) true := vw_or (d := false) ha fun h => nomatch h
theorem od_eqT {ns ms : List Int} : OD S (compareOp .Eq) (.im (.tuple (ns.map .int))) (.im (.tuple (ms.map .int))) (.im (.bool (decide (ns = ms)))) := by
  rw [← eqv_ints]
  exact od_eq (s1 := .im (.tuple (ns.map .int))) (s2 := .im (.tuple (ms.map .int))) (d1 := .tuple (ns.map .int)) (d2 := .tuple (ms.map .int)) rfl rfl (noDict_ints ns) (noDict_ints ms) (shaped_ints ns).1 (shaped_ints ms).1
theorem od_neT {ns ms : List Int} : OD S (compareOp .NotEq) (.im (.tuple (ns.map .int))) (.im (.tuple (ms.map .int))) (.im (.bool (!decide (ns = ms)))) := by
  rw [← eqv_ints]
  exact od_ne (s1 := .im (.tuple (ns.map .int))) (s2 := .im (.tuple (ms.map .int))) (d1 := .tuple (ns.map .int)) (d2 := .tuple (ms.map .int)) rfl rfl (noDict_ints ns) (noDict_ints ms) (shaped_ints ns).1 (shaped_ints ms).1
theorem od_eqL {ns ms : List Int} (h1 : s1.dat (.list (ns.map .int))) (h2 : s2.dat (.list (ms.map .int))) : OD S (compareOp .Eq) s1 s2 (.im (.bool (decide (ns = ms)))) := by
  rw [← eqv_ints]
  exact od_eq h1 h2 (noDict_ints ns) (noDict_ints ms) (shaped_ints ns).2 (shaped_ints ms).2
theorem od_neL {ns ms : List Int} (h1 : s1.dat (.list (ns.map .int))) (h2 : s2.dat (.list (ms.map .int))) : OD S (compareOp .NotEq) s1 s2 (.im (.bool (!decide (ns = ms)))) := by
  rw [← eqv_ints]
  exact od_ne h1 h2 (noDict_ints ns) (noDict_ints ms) (shaped_ints ns).2 (shaped_ints ms).2
theorem cd_allM {xs : List α} {f : α → Bool} (h1 : s1.dat (.list (xs.map fun x => .bool (f x)))) : CD S (.builtin "all") [s1] (.im (.bool (xs.all f))) := by
  have e : (xs.map f).all id = xs.all f := by rw [List.all_map]; rfl
  rw [← e]
  exact cd_all (by rw [List.map_map]; exact h1)
theorem cd_anyM {xs : List α} {f : α → Bool} (h1 : s1.dat (.list (xs.map fun x => .bool (f x)))) : CD S (.builtin "any") [s1] (.im (.bool (xs.any f))) := by
  have e : (xs.map f).any id = xs.any f := by rw [List.any_map]; rfl
  rw [← e]
  exact cd_any (by rw [List.map_map]; exact h1)
theorem cd_sumM {xs : List α} {f : α → Int} (h1 : s1.dat (.list (xs.map fun x => .int (f x)))) : CD S (.builtin "sum") [s1] (.im (.int (xs.map f).sum)) := cd_sum (by rw [List.map_map]; exact h1)
theorem ints_map (xs : List α) (f : α → Int) : xs.map (fun x => PyData.int (f x)) = (xs.map f).map PyData.int := by rw [List.map_map]; rfl
end
/-! ### a def in the module -/
def DefIn (M : Md) (x : Str) (st : Stmt) (ps : List Str) : Prop := ∃ f fd, Fun M.K x x st f fd ∧ M.mg x = some (.ref f) ∧ Binds M.K fd ps []
theorem def_mk {M : Md} {h : Heap} {x : Str} {st : Stmt} {ps : List Str} {f : Addr} {oc : Value} {od an : Option Addr} {sl : Array (Option Value)} {kV dc pm cd ct : Value} (X : M.K.In h) (G : h.Ns mainGlobals M.mg)
    (a : PySem.W.nsIn M.K mainGlobals x = some (some (.ref f))) (l : M.K.lookup f = some ⟨oc, od, .func (PySem.W.fnOf x x (defArgs st) (defBody st) (defScope st) .none kV dc pm an cd ct), sl⟩) (c : PySem.W.codeIn M.K cd x = true) (k : PySem.W.keepIn M.K (.ref f) = true)
    (hb : ∀ (kV doc pm : Value) (an : Option Addr) (cdv ct : Value) (us : List Value), us.length = ps.length → bindArgs (PySem.W.fnOf x x (defArgs st) (defBody st) (defScope st) .none kV doc pm an cdv ct) ⟨us, []⟩ = pure (ps.zip us)) : DefIn M x st ps :=
  ⟨f, _, fun_mk l c k, PySem.W.mg_of X G a, (fun_mk (st := st) l c k).binds hb⟩
/-- the law's own promise -/
def G_lawS (ds : List PyData) (o : Oc) : Prop := ∃ ns : List Int, ds = [.list (ns.map .int)] ∧ ns.length ≤ 63 ∧ o = .ret (.bool true)
def spLaw (K : PySem.W.Frag) : Sp := fun vs H Q _ => ∃ (a : Addr) (ns : List Int), vs = [.ref a] ∧ SqL K H a (ns.map V.int) ∧ ns.length ≤ 63 ∧ ∀ H', Q (.bl true) H'
theorem law_end {M : Md} {k : Nat} {fa : Addr} (F : Fn M k "law" G_lawS) (hfa : M.mg "law" = some (.ref fa)) : ∃ fd ps, FnOk M.P M.w M.K M.mg M.base (L2N.CX M.P M.w) k fa fd ps (spLaw M.K) ∧ Binds M.K fd ps [] := by
  obtain ⟨f, fd, ps, h, hm, _, hb⟩ := F
  rw [hfa] at hm
  cases hm
  refine ⟨fd, ps, h.imp fun vs H Q E hs => ?_, hb⟩
  obtain ⟨a, ns, rfl, hS, hl, q⟩ := hs
  refine ⟨H, [.list (ns.map .int)], .ret (.bool true), ⟨ns, rfl, hl, rfl⟩, Ex.refl _, .cons (.lst hS (DtA.ofInts ns)) .nil, fun v H' B' _ _ _ _ hd => ?_⟩
  cases hd
  exact q H'
end Kd

set_option Elab.async false
set_option linter.all false
set_option maxRecDepth 100000
namespace Kd
open PySem L2
open Evl (Ex ex_l ex_t ex_rd fresh_back)
/-! ### target = value, the target any (a tuple of names kept in cells is such a one) -/
section
variable {S : Sh} {ρ ρ2 : List Sl} {tg e : Expr} {pos : Pos} {Z : Pst} {d : PyData} {ix : List Nat}
theorem rs_asgG (h : VE S ρ e (.im d)) (g : GD S ρ tg d ρ2 ix) (q : Z.nx ρ2) (hw : swappedStores [tg] e (env0 S.sc) = pure none := by rfl) (hs : ∀ X : Cx, swapsWithSole [tg] e pos.line X.env = pure false := by intro _; rfl)
    (h1 : ∀ X : Cx, (assignEach [tg] X.env).map (·.2) = [assign tg X.env] := by intro _; rfl) : RS S ρ (.Assign [tg] e pos) Z :=
  rs_of (t := tAsg (wE S e) (wG S tg)) (fun X hX => ps_asg (wE_pe hX) (wG_pg hX) (hs X) ((swap_env hX.sc).trans hw) (h1 X)) fun C τ vs σ H D k l nv m => h C τ vs σ H k l _ fun v H' k2 => g C τ vs σ H' v k2 l _ fun σ' H2 _ k3 => m.nx _ _ H2 q k3
theorem rs_asgGR {P : PyData → Prop} (h : ER S ρ e P) (g : ∀ d, P d → ∃ ρ2 ix, GD S ρ tg d ρ2 ix ∧ Z.nx ρ2) (hw : swappedStores [tg] e (env0 S.sc) = pure none := by rfl) (hs : ∀ X : Cx, swapsWithSole [tg] e pos.line X.env = pure false := by intro _; rfl)
    (h1 : ∀ X : Cx, (assignEach [tg] X.env).map (·.2) = [assign tg X.env] := by intro _; rfl) : RS S ρ (.Assign [tg] e pos) Z :=
  rs_of (t := tAsg (wE S e) (wG S tg)) (fun X hX => ps_asg (wE_pe hX) (wG_pg hX) (hs X) ((swap_env hX.sc).trans hw) (h1 X)) fun C τ vs σ H D k l nv m => h C τ vs σ H k l nv _ fun v H' d hd k2 => by
    obtain ⟨ρ2, ix, hg, hq⟩ := g d hd
    exact hg C τ vs σ H' v k2 l _ fun σ' H2 _ k3 => m.nx _ _ H2 hq k3
end
/-! ### the law itself -/
def LawIn (M : Md) (st : Stmt) (p : Str) : Prop := ∃ f fd, Fun M.K "law" "law" st f fd ∧ M.mg "law" = some (.ref f) ∧ Binds M.K fd [p] [] ∧ ∀ (s : Shared) (u : Value), BindsTo s fd ⟨[u], []⟩ [(p, u)]
theorem law_mk {M : Md} {h : Heap} {st : Stmt} {p : Str} {f : Addr} {oc : Value} {od an : Option Addr} {sl : Array (Option Value)} {kV dc pm cd ct : Value} (X : M.K.In h) (G : h.Ns mainGlobals M.mg)
    (a : PySem.W.nsIn M.K mainGlobals "law" = some (some (.ref f))) (l : M.K.lookup f = some ⟨oc, od, .func (PySem.W.fnOf "law" "law" (defArgs st) (defBody st) (defScope st) .none kV dc pm an cd ct), sl⟩) (c : PySem.W.codeIn M.K cd "law" = true) (k : PySem.W.keepIn M.K (.ref f) = true)
    (hb : ∀ (kV doc pm : Value) (an : Option Addr) (cdv ct : Value) (us : List Value), us.length = [p].length → bindArgs (PySem.W.fnOf "law" "law" (defArgs st) (defBody st) (defScope st) .none kV doc pm an cdv ct) ⟨us, []⟩ = pure ([p].zip us)) : LawIn M st p :=
  ⟨f, _, fun_mk l c k, PySem.W.mg_of X G a, (fun_mk (st := st) l c k).binds hb, fun s u => .of_eq (hb kV dc pm an cd ct [u] rfl)⟩
theorem fun_uniq {K : PySem.W.Frag} {x q : Str} {st : Stmt} {f : Addr} {fd fd' : FuncData} (F : Fun K x q st f fd) (F' : Fun K x q st f fd') : fd = fd' := by
  obtain ⟨_, _, _, _, _, _, _, _, _, _, l, _⟩ := F.ex
  obtain ⟨_, _, _, _, _, _, _, _, _, _, l', _⟩ := F'.ex
  rw [l] at l'
  injection l' with e
  injection e with e1 e2 e3 e4
  injection e3
/-- the law's promise from its body -/
theorem law_ok {M : Md} {st : Stmt} {f : Addr} {fd : FuncData} {N : List Str} {p : Str} {k : Nat} (F : Fun M.K "law" "law" st f fd) (hm : M.mg "law" = some (.ref f)) (hb : Binds M.K fd [p] []) (sc : FnScope N [p] (defScope st))
    (body : ∀ E (ns : List Int), ns.length ≤ 63 → RB (M.sh N (defScope st) k E) (slots N.length [.list (ns.map .int)]) (defBody st) (Pst.of (.ret (.bool true)))) : FnOk M.P M.w M.K M.mg M.base (L2N.CX M.P M.w) (k + 1) f fd [p] (spLaw M.K) := by
  refine FnOk.imp (sp := spG M.K M.mg G_lawS) (F.okN sc (fun vs H Q E h => ?_) (fun cdv A outer s H vs Q E hr h => ?_)) fun vs H Q E hs => ?_
  · obtain ⟨B, ds, o, ⟨ns, rfl, _⟩, _, hd, _⟩ := h
    rw [hd.len]
    rfl
  · obtain ⟨B, ds, o, ⟨ns, rfl, hl, rfl⟩, hB, hd, q⟩ := h
    refine ⟨wB (M.sh N (defScope st) k E) (defBody st), wB_pss ⟨rfl, rfl, rfl, rfl, rfl, rfl, rfl, rfl, hr, L2N.takes_of rfl rfl rfl rfl, passes_of rfl, fun _ _ => rfl, fun _ => ⟨rfl, rfl⟩⟩, ?_⟩
    have k0 : Ok M.K ⟨B, H, []⟩ (slots N.length [.list (ns.map .int)]) (L2.start N vs) H := by
      refine ⟨B, B, [], Ex.refl _, Ex.refl _, hB, fun a o q _ => q, fun a o q => .inl q, fun a q => q, List.nodup_nil, fun p hp => absurd hp List.not_mem_nil, ?_⟩
      unfold slots L2.start
      rw [hd.len]
      exact Sls.ofData hd (Sls.ofNo _)
    refine body E ns hl ⟨B, H, []⟩ [] [] (L2.start N vs) H _ k0 rfl (fun _ z => nomatch z) ⟨fun ρ σ H' e k1 => ?_, fun r ρ v σ H' e k1 => ?_, fun _ _ _ e => e.elim, fun _ _ _ e => e.elim, fun c cv ρ σ H' e hc k1 => ?_⟩
    · have e' : Oc.ret (.bool true) = .ret .none := e
      cases e'
    · obtain ⟨d, e1, e2⟩ := e
      cases e2
      cases e1
      obtain ⟨B', G', fp', k2, hd'⟩ := k1.head
      exact q v H' B' k2.b k2.bh (fun a x z => k2.e a x z (fun y => nomatch y)) k2.n hd'
    · cases e
  · obtain ⟨a, ns, rfl, hS, hl, q⟩ := hs
    refine ⟨H, [.list (ns.map .int)], .ret (.bool true), ⟨ns, rfl, hl, rfl⟩, Ex.refl _, .cons (.lst hS (DtA.ofInts ns)) .nil, fun v H' B' _ _ _ _ hd => ?_⟩
    cases hd
    exact q H'
end Kd

set_option Elab.async false
set_option linter.all false
set_option maxRecDepth 100000
namespace Kd
open PySem L2 PySem.Spec PyProof.Rows
open Evl (Ex ex_l ex_t ex_rd fresh_back)
/-! ### own classes of errors -/
abbrev mroV : List Value := [.type "ValueError", .type "Exception", .type "BaseException", .type "object"]
/-- what a class says that is raised without arguments -/
structure XcAt (M : Md) (x : Str) (C : Addr) : Prop where
  mg : M.mg x = some (.ref C)
  ex : PySem.W.excIn M.K C mroV "ValueError.__new__" = true
  kp : PySem.W.keepIn M.K (.ref C) = true
  sb : PySem.W.subIn M.K (.ref C) (.type "BaseException") = some true
  ty : PySem.W.typeIn M.K (.ref C) = some (.type "type")
def XcIn (M : Md) (x : Str) : Prop := ∃ C, XcAt M x C
/-- X() -/
theorem pmk_own0 {X : Cx} {x : Str} {C : Addr} {B newId initId : String} {bmB : List Value} {p pos : Pos} (F : ExcBaseFacts B newId initId bmB) (q : PySem.W.excIn X.K C bmB newId = true) (gC : X.mg x = some (.ref C)) (kC : PySem.W.keepIn X.K (.ref C) = true) (r : Raises X (.ref C)) (hg : Gl X x)
    (hdb : (x == ("__debug__" : Str)) = false) : L2N.PMk X (.Call (.Name x p) [] [] pos) (fun _ H Q => Q (.ref C) none H) := fun pins s σ H Q J h => by
  refine wpAny_Call_Name_kw (ld_glob J hg gC (PySem.W.callWith_K0 J.kIn kC ?_) hdb)
  show wpAny _ _ (call (.ref C) []) _ _ _
  obtain ⟨_, _, _, _, _, _, _, _, _, _, _, _, _, _, _, _, _, hC, hN, hni, T⟩ := exc_obj J.kIn q
  exact wpAny_call_exc_subT F T hC hN hni (fun h' e hm => L2N.mk_of J hm r h (J.hok.gone hm.new)) (Nat.zero_le _)
section
variable {S : Sh} {ρ : List Sl} {pos pos' : Pos} {P : Pst}
theorem rs_raise {x : Str} {p : Pos} (h : XcIn S.toMd x) (q : P.ex x) (hg : S.sc.names.lookup x = some .globalImplicit := by rfl) (hdb : (x == ("__debug__" : Str)) = false := by decide) : RS S ρ (.Raise (some (.Call (.Name x p) [] [] pos')) none pos) P := by
  obtain ⟨A, h⟩ := h
  exact rs_of (t := fun _ _ H => S.E (.ref A) none H) (fun X hX => L2N.ps_raise hX.calm hX.tk (pmk_own0 PySem.F.excBase_ValueError (by rw [hX.K]; exact h.ex) (by rw [hX.mg]; exact h.mg) (by rw [hX.K]; exact h.kp) (raises_own (by rw [hX.K]; exact h.sb) (by rw [hX.K]; exact h.ty)) (by show X.env.scope.names.lookup x = _; rw [hX.sc]; exact hg) hdb))
    fun C τ vs σ H D k l nv m => m.ex x (.ref A) ρ σ H q h.mg k
end
/-! ### list.count of flat values -/
def rCntF (K : PySem.W.Frag) : V → List V → Hp → VK → Prop := fun x xs H Q => ∃ (a : Addr) (ys : List V) (y : V), x = .ref a ∧ xs = [y] ∧ SqL K H a ys ∧ flatV y = true ∧ ys.all flatV = true ∧ Q (.int (ys.countP fun z => eqV z y : Nat)) H
theorem cnt_eq {y : V} : ∀ {ys : List V} {us : List Value}, Vals ys us → ys.all flatV = true → us.countP (eqU y) = ys.countP fun z => eqV z y
  | _, _, .nil, _ => rfl
  | z :: ys, u :: us, .cons r t, f => by
    rw [List.all_cons, Bool.and_eq_true] at f
    rw [List.countP_cons, List.countP_cons, cnt_eq t f.2, eqU_of r f.1]
theorem mt_countF {X : Cx} : MtR X "list.count" (rCntF X.K) := fun pins s σ H x xs v us Q J rx rxs h => by
  obtain ⟨p, ys, y, rfl, rfl, hs, fy, fys, q⟩ := h
  cases rx
  obtain ⟨u, rfl, ru⟩ := rxs.one
  obtain ⟨its, rv, ⟨⟨cls, dd, data, sl⟩, n, ho, hc, hdn, hd⟩, hlen⟩ := J.list hs
  dsimp only at hc hd
  subst hc hd
  refine call_meets PySem.F.slot_list_count ⟨_, ho, rfl⟩ PySem.F.entry_list_count (PySem.F.args_list_count_2 _ _) (SeqAt.list_countAt p its.toArray n dd sl u (eqU y)) ⟨ho, fun y' hy => mem_eqAt ru fy rv fys y' (by simpa using hy), ?_⟩
  refine ⟨.int (ys.countP fun z => eqV z y : Nat), H, J.tok _, ⟨s.toks, ?_⟩, q⟩
  rw [← cnt_eq rv fys]
/-! ### isinstance of an error that is held -/
theorem call_isP {X : Cx} {a D : Addr} {oe : Obj} (hp : (a, oe) ∈ X.pn) (EC : ExcC X.K D) (hz : Zc (.ref D) none oe) (hf : ∃ vs, oe.data = .fields vs) : CallR X (.builtin "isinstance") (rIsE X.K D a) := fun pins s σ H xs us Q J r h => by
  obtain ⟨c, cv, b, rfl, hcv, e, q⟩ := h
  obtain ⟨vs, hv⟩ := hf
  cases r with
  | cons rx rr =>
    cases rr with
    | cons rt rr =>
      cases rr
      cases rx
      obtain rfl := hcv _ rt
      have hget := (J.pin (a, oe) (List.mem_append_left _ hp)).1
      have IA : PySem.W.InstAt s.heap a oe D none := by
        obtain ⟨oc, od, oda, osl⟩ := oe
        obtain ⟨h1, h2⟩ := hz
        dsimp only at h1 h2 hv
        subst h1 h2 hv
        exact ⟨hget, rfl, rfl, trivial⟩
      refine PySem.W.kia_one (PySem.W.handS_kitx_exc EC.hg EC.hk EC.hs EC.hd EC.ha EC.hn EC.ht EC.hm) J.kIn IA e (fun z => nomatch z) fun tk => ?_
      exact ⟨.bl b, H, J.kept (t' := tk) fun _ _ z => z, rfl, q⟩
def tIs (i : Nat) (a : Addr) (b : Bool) : TE := fun σ H Q => σ[i]? = some (some (.ref a)) ∧ Q (.bl b) H
def tIsL (i : Nat) (a : Addr) (bs : List Bool) : TA := fun σ H Q => σ[i]? = some (some (.ref a)) ∧ Q (bs.map V.bl) H
theorem pe_imp {X : Cx} {e : Expr} {t t' : TE} (h : PE X e t) (i : ∀ σ H Q, t' σ H Q → t σ H Q) : PE X e t' := ⟨fun pins s σ H Q J z => h.run pins s σ H Q J (i _ _ _ z)⟩
theorem pa_imp {X : Cx} {e : List Expr} {t t' : TA} (h : PA X e t) (i : ∀ σ H Q, t' σ H Q → t σ H Q) : PA X e t' := ⟨fun pos pins s σ H Q J z => h.run pos pins s σ H Q J (i _ _ _ z)⟩
/-- what is asked of two classes by their names -/
def KiIn (M : Md) (d c : Str) (b : Bool) : Prop := ∃ D C, M.mg d = some (.ref D) ∧ M.mg c = some (.ref C) ∧ PySem.W.kitOne M.K (.ref D) (.ref C) = some b
structure IsCx (X : Cx) (M : Md) (i : Nat) (y : Str) (d : Str) (a : Addr) : Prop where
  K : X.K = M.K
  mg : X.mg = M.mg
  nm : X.N[i]? = some y
  vs : Vis X.env.scope y
  nd1 : (y == ("__debug__" : Str)) = false
  nd2 : (y == ("__classdict__" : Str)) = false
  bi : M.mg "isinstance" = none
  gi : Gl X "isinstance"
  ob : ∃ D oe, M.mg d = some (.ref D) ∧ (a, oe) ∈ X.pn ∧ ExcC M.K D ∧ Zc (.ref D) none oe ∧ ∃ vs, oe.data = .fields vs
theorem pe_is {X : Cx} {M : Md} {i : Nat} {y d c : Str} {a : Addr} {b : Bool} {p p2 p3 pos : Pos} (I : IsCx X M i y d a) (k : KiIn M d c b) (hg : Gl X c) (hdb : (c == ("__debug__" : Str)) = false) (he : starEach [.Name y p2, .Name c p3] X.env = (false, eval (.Name y p2) X.env) :: starEach [.Name c p3] X.env)
    (he2 : starEach [.Name c p3] X.env = (false, eval (.Name c p3) X.env) :: starEach [] X.env) (hpl : (backTo pos (starEach [.Name c p3] X.env)).any (·.1) = false) : PE X (.Call (.Name "isinstance" p) [.Name y p2, .Name c p3] [] pos) (tIs i a b) := by
  obtain ⟨D, oe, hD, hp, EC, hz, hf⟩ := I.ob
  obtain ⟨D', C, hD', hC, hk⟩ := k
  rw [hD] at hD'
  cases hD'
  have hc : CallR X (.builtin "isinstance") (rIsE X.K D a) := call_isP hp (by rw [I.K]; exact EC) hz hf
  refine pe_imp (pe_callB hc I.gi (by rw [I.mg]; exact I.bi) (by decide +kernel) (pa_cons (pe_var I.nm I.vs I.nd1 I.nd2) (pa_cons (pe_glob (v := .ref C) hg (by rw [I.mg]; exact hC) rfl hdb) pa_nil he2) he) (by decide) (by decide) he hpl) fun σ H Q z => ?_
  obtain ⟨z1, z2⟩ := z
  refine ⟨_, z1, .ref C, .ref C, b, rfl, fun u hu => ?_, by rw [I.K]; exact hk, z2⟩
  cases hu
  rfl
theorem pa_is0 {X : Cx} {i : Nat} {a : Addr} : PA X [] (tIsL i a []) := pa_imp pa_nil fun σ H Q z => z.2
theorem pa_is {X : Cx} {e : Expr} {es : List Expr} {i : Nat} {a : Addr} {b : Bool} {bs : List Bool} (h : PE X e (tIs i a b)) (hs : PA X es (tIsL i a bs)) (he : starEach (e :: es) X.env = (false, eval e X.env) :: starEach es X.env := by rfl) : PA X (e :: es) (tIsL i a (b :: bs)) :=
  pa_imp (pa_cons h hs he) fun σ H Q z => ⟨z.1, z.1, z.2⟩
end Kd

set_option Elab.async false
set_option linter.all false
set_option maxRecDepth 100000
namespace Kd
open PySem L2 PySem.Spec PyProof.Rows
open Evl (Ex ex_l ex_t ex_rd fresh_back)
/-! ### a def called with an error that is held -/
theorem held_run {CX : CXT} {P : Program} {w : World} {K : PySem.W.Frag} {mg : Str → Option Value} {base : Heap} {k : Nat} {f : Addr} {x qual y : Str} {st : Stmt} {fd : FuncData} {N : List Str} {A : Around} {outer : List Env} {s : Shared} {H : Hp} {Q : VK} {E : XK} {p : Addr × Obj}
    (F : Fun K x qual st f fd) (S : FnScope N [y] (defScope st)) (hb : Binds K fd [y] []) (hr : L2H.RoomH (k + 1) A) (hpin : L2H.PinOk outer H s p) (e0 : Env0 P w K mg base A outer s H)
    (hbd : ∀ cdv, L2H.RoomH k (A.deeper (envOfC qual (defScope st) s.heap.objs.size f cdv)) → ∃ t, PSs (L2H.cxH CX P w K mg base N qual (defScope st) f cdv A outer s H E p) (defBody st) t ∧ t ⟨fun _ H' => Q .non H', Q, fun _ _ => False, fun _ _ => False⟩ (L2.start N [.ref p.1]) H) :
    codeAny (model P w) A (.call (.ref f) ⟨[.ref p.1], []⟩) (CR CX outer P w H s Q E) s := by
  obtain ⟨_, _, _, _, _, _, cdv, _, _, rfl, lk, hcd⟩ := F.ex
  have up : ∀ b o, base.get? b = some o → s.heap.get? b = some o := fun b o e => (e0.bs b o e).1
  have KI : K.In s.heap := e0.mod.kin.keeps up
  have kd : ∀ z ∈ [y].zip [Value.ref p.1], (defScope st).names.lookup z.1 = some .local ∨ ((defScope st).names.lookup z.1 = some .cell ∧ ((cellsFrom (s.heap.objs.size + 1) (defScope st).names []).lookup z.1).isSome = true) := fun ⟨n, v⟩ hz =>
    (S.par n (List.of_mem_zip hz).1).elim .inl fun q => .inr ⟨q, PySem.W.cellsFrom_some _ _ _ (.inl q)⟩
  refine codeAny_call_function (L2H.RoomH.depth hr) (KI _ _ lk) rfl S.co S.gen rfl (PySem.W.codeRec_of KI hcd) (hb s [.ref p.1] KI rfl _ _ _ _ (wpAny_newFunctionEnv_cells S.kind kd fun env he s1 z => ?_))
  subst he
  obtain ⟨t, ht, hq⟩ := hbd cdv (L2H.RoomH.deeper hr _)
  have J : Inv (L2H.cxH CX P w K mg base N qual (defScope st) f cdv A outer s H E p) [] (L2.start N [.ref p.1]) H s1 := L2H.inv_startH S hpin e0 rfl (.cons rfl .nil) z
  refine ⟨(e0.mod.nolimit.keeps up).keeps z.toInCall.keep, codeAny_func (wpAny_mono (ht.run [] s1 _ H _ J hq) (fun fl s' hs => ?_) fun e s' hs => hs)⟩
  cases fl with
  | ret u =>
    obtain ⟨v, σ', H', J', rv, q⟩ := hs
    exact ⟨v, H', J'.os, J'.bare, J'.base, J'.hok, rv, q⟩
  | next =>
    obtain ⟨σ', H', J', q⟩ := hs
    exact ⟨.non, H', J'.os, J'.bare, J'.base, J'.hok, rfl, q⟩
  | brk => exact (hs.elim fun _ z => z.elim fun _ z => z.2).elim
  | cont => exact (hs.elim fun _ z => z.elim fun _ z => z.2).elim
/-- a tuple of flat values, made anew -/
structure NewT (H H' : Hp) (v : V) (us : List V) (r : PyData) : Prop where
  at_ : ∃ t, v = .ref t ∧ H t = none ∧ H' t = some (.tup us)
  ex : Ex H H'
/-- what the telling def gives for an error of class d -/
def WhF (M : Md) (k : Nat) (x d : Str) (us : List V) : Prop := ∃ f D, M.mg x = some (.ref f) ∧ PySem.W.keepIn M.K (.ref f) = true ∧ M.mg d = some (.ref D) ∧
  ∀ (A : Around) (outer : List Env) (s : Shared) (H : Hp) (Q : VK) (E : XK) (p : Addr × Obj), L2H.RoomH k A → L2H.PinOk outer H s p → Zc (.ref D) none p.2 → (∃ vs, p.2.data = .fields vs) → Env0 M.P M.w M.K M.mg M.base A outer s H →
    (∀ v H', (∃ t, v = .ref t ∧ H t = none ∧ H' t = some (.tup us)) → Ex H H' → Q v H') → codeAny (model M.P M.w) A (.call (.ref f) ⟨[.ref p.1], []⟩) (CR (L2N.CX M.P M.w) outer M.P M.w H s Q E) s
def tWh (i : Nat) (a : Addr) (us : List V) : TE := fun σ H Q => σ[i]? = some (some (.ref a)) ∧ ∀ v H', (∃ t, v = .ref t ∧ H t = none ∧ H' t = some (.tup us)) → Ex H H' → Q v H'
section
variable {S : Sh} {ρ : List Sl} {P : Pst}
theorem pe_wh {X : Cx} {k i : Nat} {x y d : Str} {us : List V} {a : Addr} {oe : Obj} {pn : List (Addr × Obj)} {q p2 pos : Pos} {cv : Value} {od : Option Addr} (hX : S.Has X) (W : WhF S.toMd k x d us) (hk : k ≤ S.k) (hd : S.mg d = some cv) (hz : L2N.Zn cv none oe) (hf : ∃ vs, oe.data = .fields vs) (hN : S.N[i]? = some y) (hv : Vis S.sc y)
    (hg : S.sc.names.lookup x = some .globalImplicit) (hdb : (x == ("__debug__" : Str)) = false) (n1 : (y == ("__debug__" : Str)) = false) (n2 : (y == ("__classdict__" : Str)) = false)
    (he : ∀ X : Cx, starEach [.Name y p2] X.env = (false, eval (.Name y p2) X.env) :: starEach [] X.env) (hpl : ∀ X : Cx, (backTo pos (starEach [] X.env)).any (·.1) = false) : PE (X.suite a ((a, oe) :: pn)) (.Call (.Name x q) [.Name y p2] [] pos) (tWh i a us) := by
  obtain ⟨f, D, hm, hkp, hD, run⟩ := W
  rw [hd] at hD
  cases hD
  refine ⟨fun pins s σ H Q J h => ?_⟩
  have ha : PA (X.suite a ((a, oe) :: pn)) [.Name y p2] (tCons (tVar i) tNil) := pa_cons (pe_var (by show X.N[i]? = _; rw [hX.N]; exact hN) (by show Vis X.env.scope y; rw [hX.sc]; exact hv) n1 n2) pa_nil (he (X.suite a ((a, oe) :: pn)))
  refine wpAny_Call_Name_kw (ld_glob J (by show X.env.scope.names.lookup x = _; rw [hX.sc]; exact hg) (by show X.mg x = _; rw [hX.mg]; exact hm) (PySem.W.callWith_K (h₀ := X.base) J.ok.mod.kin (by show PySem.W.keepIn X.K _ = true; rw [hX.K]; exact hkp)
    (thn (ha.run pos pins s σ H (fun vs H1 => vs = [.ref a] ∧ H1 = H) J ⟨_, h.1, rfl, rfl⟩) fun ws s1 ⟨vs, H1, J1, r, e1, e2⟩ => ⟨J1.kIn, ?_⟩) (he (X.suite a ((a, oe) :: pn))) (hpl (X.suite a ((a, oe) :: pn)))) hdb)
  subst e1 e2
  cases r with
  | cons r1 r2 =>
    cases r2
    cases r1
    have pk := J1.pin (a, oe) (List.mem_append_left _ List.mem_cons_self)
    have po : L2H.PinOk X.stack H1 s1 (a, oe) := ⟨pk.1, pk.2.1, fun hm => (List.mem_cons.mp (J1.stkSub a hm)).elim pk.2.2.1 pk.2.2.2.1, pk.2.2.2.2⟩
    have room : L2H.RoomH k (X.suite a ((a, oe) :: pn)).A := L2H.roomH_of (A := X.A) (hX.room.mono hk) |> fun z => ⟨z.dp, z.un⟩
    have e0 := J1.env0
    refine wpAny_call (codeAny_mono (R := CR (L2N.CX S.P S.w) X.stack S.P S.w H1 s1 Q (fun _ _ _ => False)) ?_ fun r s' hq => ?_)
    · have z := run (X.suite a ((a, oe) :: pn)).A X.stack s1 H1 Q (fun _ _ _ => False) (a, oe) room po hz.zc hf (by rw [← hX.prog, ← hX.w, ← hX.K, ← hX.mg, ← hX.base]; exact e0) h.2
      rw [← hX.prog, ← hX.w] at z ⊢
      exact z
    · rw [← hX.prog, ← hX.w] at hq
      cases r with
      | error e => exact (hq.elim fun _ z => z.elim fun _ z => z.elim fun _ z => z.elim fun _ z => z.elim fun _ z => z.2.2.2.2.2.2.2).elim
      | ok fl =>
        cases fl with
        | ret u => exact J1.after hq
        | next => exact hq.elim
        | brk => exact hq.elim
        | cont => exact hq.elim
end
end Kd

set_option Elab.async false
set_option linter.all false
set_option maxRecDepth 100000
namespace Kd
open PySem L2 PySem.Spec PyProof.Rows
open Evl (Ex ex_l ex_t ex_rd fresh_back)
/-! ### try: body, except x as n: return f(n) -/
def ExmIn (M : Md) (d c : Str) (b : Bool) : Prop := ∃ D C, M.mg d = some (.ref D) ∧ M.mg c = some (.ref C) ∧ PySem.W.exmOne M.K (.ref D) (.ref C) = some b
section
variable {S : Sh} {ρ : List Sl} {P : Pst} {body : List Stmt} {pos pos' : Pos}
/-- what the suite reads as: a weakest reading over all contexts of this kind -/
def tSuite (S : Sh) (su : List Stmt) (a : Addr) (cls : Value) (d : Option Addr) : TS := fun D σ H => ∃ t, (∀ X oe pn, S.Has X → L2N.Zn cls d oe → (∃ vs, oe.data = .fields vs) → PSs (X.suite a ((a, oe) :: pn)) su t) ∧ t D σ H
/-- the wish without the slots -/
def EW (S : Sh) (W : WX) : XK := fun cls d H => ∀ σ : L2.St, σ.length = S.N.length → W cls d σ H
def Sh.wE (S : Sh) (E : XK) : Sh := { S with E := E }
theorem Ok.newT {K : PySem.W.Frag} {C : Cz} {l : List Sl} {os : List (Option V)} {H H' : Hp} {t : Addr} {us : List V} {ds : List PyData} (k : Ok K C l os H) (e : Ex H H') (n : H t = none) (h : H' t = some (.tup us)) (hd : ∀ B, DtA K B us ds) : Ok K C (.im (.tuple ds) :: l) (some (.ref t) :: os) H' := by
  obtain ⟨B, G, fp, k2⟩ := k
  have bt : B t = none := by
    cases z : B t with
    | none => rfl
    | some x =>
      have := k2.bh t x z
      rw [n] at this
      cases this
  obtain ⟨G', k3⟩ := k2.back (B' := upd B t (.tup us)) (H' := H') (fun a x z => by rw [upd_ne (fun q => by rw [q, bt] at z; cases z)]; exact z) (fun a x z => by
    by_cases q : a = t
    · subst q
      rw [upd_same] at z
      cases z
      exact h
    · rw [upd_ne q] at z
      exact e a x (k2.bh a x z)) e (fun a x z => by
    by_cases q : a = t
    · exact .inr (by rw [q]; exact n)
    · rw [upd_ne q] at z
      exact .inl z)
  exact k3.put (.tup (.inl (.inl upd_same)) (hd _))
theorem rs_tryW (i : Nat) {x n wf : Str} {k : Nat} {np q p2 cp rp : Pos} (PX : Str → Prop) (hc : ∃ c, S.mg x = some (.ref c))
    (wh : ∀ c, PX c → ∃ us ds, WhF S.toMd k wf c us ∧ (∀ B, DtA S.K B us ds) ∧ ExmIn S.toMd c x true ∧ ∀ ρ, P.rt (.im (.tuple ds)) ρ) (hb : ∀ E, RB (S.wE E) ρ body { P with ex := PX })
    (hk : k ≤ S.k := by walk_at "kd lvl") (hnd : S.N.Nodup := by walk_at "kd nd") (hi : S.N[i]? = some n := by rfl) (hl : S.sc.names.lookup n = some .local := by rfl) (hfa : S.fa = true := by rfl) (hgx : S.sc.names.lookup x = some .globalImplicit := by rfl) (hgw : S.sc.names.lookup wf = some .globalImplicit := by rfl)
    (d1 : (x == ("__debug__" : Str)) = false := by decide) (d2 : (wf == ("__debug__" : Str)) = false := by decide) (d3 : (n == ("__debug__" : Str)) = false := by decide) (d4 : (n == ("__classdict__" : Str)) = false := by decide)
    (he : ∀ X : Cx, starEach [.Name n p2] X.env = (false, eval (.Name n p2) X.env) :: starEach [] X.env := by intro _; rfl) (hpl : ∀ X : Cx, (backTo cp (starEach [] X.env)).any (·.1) = false := by intro _; rfl) :
    RS S ρ (.Try body [.ExceptHandler (some (.Name x np)) (some n) [.Return (some (.Call (.Name wf q) [.Name n p2] [] cp)) rp] pos'] [] [] pos) P := by
  obtain ⟨c, hc⟩ := hc
  refine rs_of (t := fun D σ H => wB (S.wE (EW S (wAs S.K (.ref c) i (tSuite S [.Return (some (.Call (.Name wf q) [.Name n p2] [] cp)) rp]) (fun cls d _ H => S.E cls d H) D))) body D σ H) (fun X hX => ?_) fun C τ vs σ H D kk l nv m => ?_
  · have hs := hX.sk hfa
    rw [← hX.K]
    refine L2N.ps_try_as (tb := fun W => wB (S.wE (EW S W)) body) hs.1 hs.2 (by rw [hX.N]; exact hnd) (by rw [hX.N]; exact hi) (by show X.env.scope.names.lookup n = _; rw [hX.sc]; exact hl) ⟨by show X.env.scope.names.lookup x = _; rw [hX.sc]; exact hgx, d1, .inl (by rw [hX.mg]; exact hc)⟩ hX.tk (fun W pn xe tk po => ?_) (fun a oe cls d pn hz hf => ?_)
    · refine wB_pss (S := S.wE (EW S W)) (X := X.tr pn xe) ⟨hX.prog, hX.w, hX.K, hX.mg, hX.base, hX.N, hX.sc, hX.calm, hX.room, fun u s' z => ?_, po, hX.fn, hX.sk⟩
      obtain ⟨a, B, sI, pins, σ', H', cls, d, e, J, nb, up, sky, na, os, ag, w⟩ := z
      exact tk u s' ⟨a, B, sI, pins, σ', H', cls, d, e, J, nb, up, sky, na, os, ag, w σ' (by have := J.len; rw [this]; show X.N.length = _; rw [hX.N])⟩
    · exact ⟨fun pins s σ H D J ⟨t, ht, z⟩ => (ht X oe pn hX hz hf).run pins s σ H D J z⟩
  · refine hb _ C τ vs σ H D kk l nv ⟨m.nx, m.rt, m.bk, m.ct, fun cc cv ρ1 σ1 H1 hcc hcv k1 => ?_⟩
    obtain ⟨us, ds, W, hds, ⟨D1, C1, m1, m2, hex⟩, hrt⟩ := wh cc hcc
    rw [hc] at m2
    cases m2
    have e1 : cv = .ref D1 := by
      have z := hcv.symm.trans m1
      exact Option.some.inj z
    subst e1
    intro σ2 hl2
    have hiN : i < S.N.length := by
      by_cases z : i < S.N.length
      · exact z
      · rw [List.getElem?_eq_none (by omega)] at hi
        cases hi
    refine ⟨true, hex, fun _ a ha => ⟨tRet (tWh i a us), fun X oe pn hX hz hf => pss_one (ps_ret (pe_wh (cv := .ref D1) (od := none) hX W hk m1 hz hf hi (.inl hl) hgw d2 d3 d4 he hpl)), ?_, fun v H' ⟨t, e2, nt, ht⟩ ex => ?_⟩, fun z => nomatch z⟩
    · rw [List.getElem?_set_self (by omega)]
    · subst e2
      exact m.rt _ ρ1 _ σ1 H' (hrt ρ1) (Ok.newT k1 ex nt ht hds)
end
end Kd

set_option Elab.async false
set_option linter.all false
set_option maxRecDepth 100000
namespace Kd
open PySem L2 PySem.Spec PyProof.Rows
open Evl (Ex ex_l ex_t ex_rd fresh_back)
/-! ### what is asked of a class of errors, as one word -/
def errB (K : PySem.W.Frag) (D SE : Addr) (d : Str) (nm : List Str) (ad : List Addr) : Bool :=
  PySem.W.excIn K D mroV "ValueError.__new__" && PySem.W.keepIn K (.ref D) && (PySem.W.subIn K (.ref D) (.type "BaseException") == some true) && (PySem.W.typeIn K (.ref D) == some (.type "type"))
  && (PySem.W.findIn K (.ref D) "__getattribute__" == some (some (.builtin "BaseException.__getattribute__"))) && (PySem.W.findIn K (.ref D) "__getattr__" == some none) && PySem.W.hasDictIn K D
  && (PySem.W.findIn K (.ref D) "__class__" == some (some (.builtin "object.__class__"))) && (PySem.W.specialIn K (.builtin "object.__class__") "__get__" == some (some (.builtin "getset_descriptor.__get__")))
  && (PySem.W.takesIn K (.builtin "object.__class__") == some true) && (PySem.W.mroIn K D (.type "object") == some true) && (PySem.W.exmOne K (.ref D) (.ref SE) == some true)
  && (PySem.W.kitOne K (.ref D) (.type "ValueError") == some true) && ((nm.zip ad).all fun q => PySem.W.kitOne K (.ref D) (.ref q.2) == some (q.1 == d))
/-- a class of errors that may be raised and told of -/
structure ErrIn (M : Md) (nm : List Str) (sup d : Str) : Prop where
  x : XcIn M d
  ec : ∃ D, M.mg d = some (.ref D) ∧ ExcC M.K D
  em : ExmIn M d sup true
  kv : ∃ D, M.mg d = some (.ref D) ∧ PySem.W.kitOne M.K (.ref D) (.type "ValueError") = some true
  ki : ∀ x ∈ nm, KiIn M d x (x == d)
theorem zip_of {α β : Type} {x : α} : ∀ {l : List α} {m : List β}, l.length = m.length → x ∈ l → ∃ y, (x, y) ∈ l.zip m
  | [], _, _, h => nomatch h
  | a :: l, [], e, _ => nomatch e
  | a :: l, b :: m, e, h => by
    rcases List.mem_cons.mp h with rfl | h
    · exact ⟨b, List.mem_cons_self⟩
    · obtain ⟨y, hy⟩ := zip_of (Nat.succ.inj e) h
      exact ⟨y, List.mem_cons_of_mem _ hy⟩
theorem err_mk {M : Md} {D SE : Addr} {sup d : Str} {nm : List Str} {ad : List Addr} (m : M.mg d = some (.ref D)) (ms : M.mg sup = some (.ref SE)) (mn : ∀ q ∈ nm.zip ad, M.mg q.1 = some (.ref q.2)) (hl : nm.length = ad.length) (b : errB M.K D SE d nm ad = true) : ErrIn M nm sup d := by
  unfold errB at b
  simp only [Bool.and_eq_true, beq_iff_eq, List.all_eq_true] at b
  obtain ⟨⟨⟨⟨⟨⟨⟨⟨⟨⟨⟨⟨⟨b1, b2⟩, b3⟩, b4⟩, b5⟩, b6⟩, b7⟩, b8⟩, b9⟩, b10⟩, b11⟩, b12⟩, b13⟩, b14⟩ := b
  refine ⟨⟨D, m, b1, b2, b3, b4⟩, ⟨D, m, b5, b6, b3, b7, b8, b9, b10, b11⟩, ⟨D, SE, m, ms, b12⟩, ⟨D, m, b13⟩, fun x hx => ?_⟩
  obtain ⟨C, hC⟩ := zip_of hl hx
  exact ⟨D, C, m, mn _ hC, b14 _ hC⟩
/-! ### a list, repeated; an expression that raises, by a test -/
section
variable {S : Sh} {ρ : List Sl} {e a b : Expr} {s1 s2 s3 : Sl} {pos p2 : Pos}
theorem od_repL {ds : List PyData} {k : Int} (h1 : s1 = .al ds ∨ s1 = .ow ds) (h0 : -1000000 ≤ k) (hk : k ≤ 1000000) (hz : ds.length * k.toNat ≤ 100000) : OD S (binaryOp .Mult) s1 (.im (.int k)) (.ow (List.replicate k.toNat ds).flatten) := fun C l os v1 v2 H kk Q q => by
  have e2 := kk.int
  subst e2
  have k1 : Ok S.K C (.al ds :: l) (some v1 :: os) H := by
    rcases h1 with rfl | rfl
    · exact kk.tail
    · exact kk.tail.toAl
  obtain ⟨B, G, fp, k2⟩ := k1
  obtain ⟨f1, g1, _, ⟨_, p1, xs, e1, hp1, hd1⟩, k4⟩ := k2.tail
  cases e1
  have l1 := hd1.len
  exact ⟨rRep, fun X hX => op_rep, p1, k, xs, rfl, rfl, k4.h _ _ hp1, by omega, by omega, Evl.sz_of (by rw [l1]; exact hz), fun t ht => q _ _ (k4.putOwn ht (hd1.rep k.toNat))⟩
theorem vx_ite {t : Expr} {c : Bool} {x : Str} (ht : VT S ρ t c) (ha : c = true → VX S ρ a x) (hb : c = false → VX S ρ b x) : VX S ρ (.IfExp t a b pos) x := fun C τ vs σ H k l Q q =>
  ⟨tIf (wT S t) (wE S a) (wE S b), fun X hX => pe_ifExp (wT_pt hX) (wE_pe hX) (wE_pe hX), ht C τ vs σ H k l _ fun H1 k1 => by
    cases c with
    | true => exact iteT (ha rfl C τ vs σ H1 k1 l Q q)
    | false => exact iteF (hb rfl C τ vs σ H1 k1 l Q q)⟩
end
/-- isinstance(e, ValueError) -/
theorem pe_isV {X : Cx} {M : Md} {i : Nat} {y d : Str} {a : Addr} {p p2 p3 pos : Pos} (I : IsCx X M i y d a) (k : ∃ D, M.mg d = some (.ref D) ∧ PySem.W.kitOne M.K (.ref D) (.type "ValueError") = some true) (hm : M.mg "ValueError" = none) (hg : Gl X "ValueError") (he : starEach [.Name y p2, .Name "ValueError" p3] X.env = (false, eval (.Name y p2) X.env) :: starEach [.Name "ValueError" p3] X.env)
    (he2 : starEach [.Name "ValueError" p3] X.env = (false, eval (.Name "ValueError" p3) X.env) :: starEach [] X.env) (hpl : (backTo pos (starEach [.Name "ValueError" p3] X.env)).any (·.1) = false) : PE X (.Call (.Name "isinstance" p) [.Name y p2, .Name "ValueError" p3] [] pos) (tIs i a true) := by
  obtain ⟨D, oe, hD, hp, EC, hz, hf⟩ := I.ob
  obtain ⟨D', hD', hk⟩ := k
  rw [hD] at hD'
  cases hD'
  have hc : CallR X (.builtin "isinstance") (rIsE X.K D a) := call_isP hp (by rw [I.K]; exact EC) hz hf
  refine pe_imp (pe_callB hc I.gi (by rw [I.mg]; exact I.bi) (by decide +kernel) (pa_cons (pe_var I.nm I.vs I.nd1 I.nd2) (pa_cons (pe_bltn (v := .ty "ValueError") (u := .type "ValueError") hg (by rw [I.mg]; exact hm) (by decide +kernel) rfl) pa_nil he2) he) (by decide) (by decide) he hpl) fun σ H Q z => ?_
  obtain ⟨z1, z2⟩ := z
  refine ⟨_, z1, .ty "ValueError", .type "ValueError", true, rfl, fun u hu => ?_, by rw [I.K]; exact hk, z2⟩
  cases hu
  rfl
end Kd

set_option Elab.async false
set_option linter.all false
set_option maxRecDepth 100000
namespace Kd
open PySem L2 PySem.Spec PyProof.Rows
open Evl (Ex ex_l ex_t ex_rd fresh_back)
section
variable {S : Sh} {ρ : List Sl} {e e2 : Expr} {pos : Pos} {P : Pst} {s1 : Sl} {α β : Type}
theorem od_eqI {d1 d2 : PyData} (n1 : noDict d1 = true) (n2 : noDict d2 = true) (p1 : SeqAt.shaped d1 = true) (p2 : SeqAt.shaped d2 = true) : OD S (compareOp .Eq) (.im d1) (.im d2) (.im (.bool (PyData.eqv d1 d2))) := od_eq (s1 := .im d1) (s2 := .im d2) (d1 := d1) (d2 := d2) rfl rfl n1 n2 p1 p2
theorem od_neI {d1 d2 : PyData} (n1 : noDict d1 = true) (n2 : noDict d2 = true) (p1 : SeqAt.shaped d1 = true) (p2 : SeqAt.shaped d2 = true) : OD S (compareOp .NotEq) (.im d1) (.im d2) (.im (.bool (!PyData.eqv d1 d2))) := od_ne (s1 := .im d1) (s2 := .im d2) (d1 := d1) (d2 := d2) rfl rfl n1 n2 p1 p2
/-- x.extend([..]) -/
theorem rs_ext (i : Nat) {x : Str} {ds es : List PyData} {p1 p2 p3 : Pos} (h : VE S ρ e (.ow es)) (q : P.nx (ρ.set i (.ow (ds ++ es)))) (hN : S.N[i]? = some x := by rfl) (hv : Vis S.sc x := by walk_at "kd vis") (nv : ρ.all noV = true := by rfl) (hr : ρ[i]? = some (.ow ds) := by rfl) (hz : ds.length + es.length ≤ 100000 := by walk_at "kd ar")
    (hd : (x == ("__debug__" : Str)) = false := by decide) (hcd : (x == ("__classdict__" : Str)) = false := by decide)
    (hfew : ∀ X : Cx, ((backTo p3 (starEach [e] X.env)).all (fun x => !x.1) && (backToKw p3 (keywordEach [] X.env)).all (fun x => x.1.isSome) && decide ([e].length + ([] : List Keyword).length + (if ([] : List Keyword).isEmpty then 0 else 1) < 30)) = true := by intro _; rfl)
    (hline : (p2.endLine == p3.line) = true := by rfl) (hse : ∀ X : Cx, starEach [e] X.env = (false, eval e X.env) :: starEach [] X.env := by intro _; rfl)
    (hs : ∀ X : Cx, swapsWith (.Call (.Attribute (.Name x p1) "extend" p2) [e] [] p3) none pos.line X.env = pure false := by intro _; rfl) : RS S ρ (.Expr (.Call (.Attribute (.Name x p1) "extend" p2) [e] [] p3) pos) P :=
  rs_of (t := tDrop (tBM S.K "list" rExtend (tVar i) (tCons (wE S e) tNil))) (fun X hX => ps_expr (by
      rw [← hX.K]
      exact pe_bm PySem.F.plainAttrs_list PySem.F.slot_list_extend PySem.F.type_list_extend mt_extend (pe_var (by rw [hX.N]; exact hN) (by rw [hX.sc]; exact hv) hd hcd) (pa_cons (wE_pe hX) pa_nil (hse X)) rfl (hfew X) hline (hse X) rfl) (hs X)) fun C τ vs σ H D k l nvt m => by
    obtain ⟨v, ev, k1⟩ := k.alias (off_get (τ := τ) hr) (by intro z; cases z)
    have ev' := ev
    rw [l, List.getElem?_append_right (Nat.le_add_right _ _), Nat.add_sub_cancel_left] at ev
    refine ⟨v, ev, ?_, h C (_ :: τ) (some v :: vs) σ H k1 (congrArg (· + 1) l) _ fun y H1 k2 => ?_⟩
    · have kd := k1.dt (d := .list ds) rfl
      cases kd with
      | lst hs _ => exact .inl ⟨rfl, _, hs⟩
    · have k2' : Ok S.K C (.ow es :: .al ds :: (τ ++ ρ)) (some y :: some v :: (vs ++ σ)) H1 := k2
      obtain ⟨B, G, fp, k3⟩ := k2'
      obtain ⟨f1, g1, _, ⟨b, zs, e3, _, _, hb, hd2⟩, k4⟩ := k3.tail
      obtain ⟨f2, g2, _, _, k5⟩ := k4.tail
      obtain ⟨p, xs, e1, hp, hd, fin⟩ := k5.change (by
        intro s hs
        rcases List.mem_append.mp hs with z | z
        · exact nvt s z
        · exact List.all_eq_true.mp nv s z) (off_get (τ := τ) hr)
      rw [e1] at ev'
      cases ev'
      cases e3
      refine ⟨p, b, xs, zs, rfl, rfl, hp, hb, Evl.sz_of (by rw [hd.len, hd2.len]; exact hz), m.nx _ σ _ q ?_⟩
      have k6 := fin (xs ++ zs) (ds ++ es) (hd.app hd2)
      rw [off_set] at k6
      exact k6
/-- xs[::-1] -/
theorem ve_revL {ds : List PyData} {k : Nat} {p1 p2 p3 : Pos} (ha : VE S ρ e s1) (h1 : s1 = .im (.list ds) ∨ s1 = .al ds ∨ s1 = .ow ds) : VE S ρ (.Subscript e (.Slice none none (some (.UnaryOp .USub (.Constant (.int 1) k p1) p2)) p3) pos) (.ow ds.reverse) :=
  ve_of (t := tRevL S.K (wE S e)) (fun X hX => by rw [← hX.K]; exact pe_revL (wE_pe hX)) fun C τ vs σ H k l Q q => ha C τ vs σ H k l _ fun v1 H1 k1 => by
    obtain ⟨B, G, fp, p, xs, k2, rfl, hs, hd⟩ := items_of k1 h1
    exact ⟨p, xs, rfl, hs, fun t ht => q _ _ (k2.putOwn ht hd.rev)⟩
theorem iw_zipL {elts : List Expr} {kk : Nat} {tpos p : Pos} {ds es : List PyData} (hm : S.mg "zip" = none) (ha : VE S ρ e (.im (.list ds))) (hb : VE S ρ e2 (.im (.list es))) (hg : S.sc.names.lookup ("zip" : Str) = some .globalImplicit := by rfl)
    (hse : ∀ X : Cx, starEach [e, e2] X.env = (false, eval e X.env) :: starEach [e2] X.env := by intro _; rfl) (hse2 : ∀ X : Cx, starEach [e2] X.env = (false, eval e2 X.env) :: starEach [] X.env := by intro _; rfl) (hpl : ∀ X : Cx, (backTo pos (starEach [e2] X.env)).any (·.1) = false := by intro _; rfl) :
    IW S ρ (.Tuple elts kk tpos) (.Call (.Name "zip" p) [e, e2] [] pos) (min ds.length es.length) (fun i => .tuple [ds.getD i .none, es.getD i .none]) := fun C τ vs σ H k l R q =>
  ⟨RZ.iZipA S.K (tCons (wE S e) (tCons (wE S e2) tNil)), fun X hX => by rw [← hX.K]; exact RZ.pi_zipA (by show X.env.scope.names.lookup _ = _; rw [hX.sc]; exact hg) (by rw [hX.mg]; exact hm) (pa_cons (wE_pe hX) (pa_cons (wE_pe hX) pa_nil (hse2 X)) (hse X)) (hse X) (hpl X), ha C τ vs σ H k l _ fun v H1 k1 => hb C (_ :: τ) (some v :: vs) σ H1 k1 (congrArg (· + 1) l) _ fun v2 H2 k2 => by
    obtain ⟨B, G, fp, k3, hd1, hd2⟩ := Ok.two k2
    cases hd1 with
    | @lst a xs _ hs hx =>
      cases hd2 with
      | @lst b ys _ ht hy =>
        refine ⟨a, b, xs, ys, rfl, .inl ⟨ex_l k3.bh hs, ex_l k3.bh ht, q (Itz S.K a b) H2 [_, _] [_, _] rfl (fun s hs => by simp at hs; rcases hs with hs | hs <;> (subst hs; rfl)) k2 fun i l os H2 k2 => ?_⟩⟩
        obtain ⟨B, G, fp, k3, hd1, hd2⟩ := Ok.two k2
        cases hd1 with
        | @lst _ xs _ hs hx =>
          cases hd2 with
          | @lst _ ys _ ht hy =>
            have hs2 := ex_l k3.bh hs
            have ht2 := ex_l k3.bh ht
            have l1 := hx.len
            have l2 := hy.len
            refine ⟨fun hi => ?_, fun hi => ⟨xs, ys, hs2, ht2, by omega⟩⟩
            refine ⟨⟨xs, ys, xs[i]'(by omega), ys[i]'(by omega), hs2, ht2, List.getElem?_eq_getElem _, List.getElem?_eq_getElem _⟩, fun z H3 y => ?_⟩
            obtain ⟨T, x, y, rfl, hT, rfl, y1, y2⟩ := y
            obtain ⟨d1, h1, h1'⟩ := hx.getV (y1 xs hs2)
            obtain ⟨d2, h2, h2'⟩ := hy.getV (y2 ys ht2)
            dsimp only
            rw [getD_some h1, getD_some h2]
            exact k3.pair hT h1' h2'⟩
theorem ix_zipL {elts : List Expr} {kk : Nat} {tpos p : Pos} {xs : List α} {ys : List β} {f : α → PyData} {g : β → PyData} (hm : S.mg "zip" = none) (ha : VE S ρ e (.im (.list (xs.map f)))) (hb : VE S ρ e2 (.im (.list (ys.map g)))) (hg : S.sc.names.lookup ("zip" : Str) = some .globalImplicit := by rfl)
    (hse : ∀ X : Cx, starEach [e, e2] X.env = (false, eval e X.env) :: starEach [e2] X.env := by intro _; rfl) (hse2 : ∀ X : Cx, starEach [e2] X.env = (false, eval e2 X.env) :: starEach [] X.env := by intro _; rfl) (hpl : ∀ X : Cx, (backTo pos (starEach [e2] X.env)).any (·.1) = false := by intro _; rfl) :
    IX S ρ (.Tuple elts kk tpos) (.Call (.Name "zip" p) [e, e2] [] pos) ((xs.zip ys).map fun q => PyData.tuple [f q.1, g q.2]) :=
  iw_eq (iw_zipL hm ha hb hg hse hse2 hpl) (by simp) fun i hi => by
    have h1 : i < xs.length := by simp at hi; omega
    have h2 : i < ys.length := by simp at hi; omega
    simp only [List.getD_eq_getElem?_getD, List.getElem?_map, List.getElem?_eq_getElem h1, List.getElem?_eq_getElem h2]
    rw [show (xs.zip ys)[i]? = some (xs[i], ys[i]) from List.getElem?_zip_eq_some.mpr ⟨List.getElem?_eq_getElem h1, List.getElem?_eq_getElem h2⟩]
    rfl
end
end Kd

set_option Elab.async false
set_option linter.all false
set_option maxRecDepth 100000
namespace Kd
open PySem L2 PySem.Spec PyProof.Rows
open Evl (Ex ex_l ex_t ex_rd fresh_back)
/-! ### enumerate over anything whose next is known -/
section
variable {prog : Program} {w : World} {A : Around} {E : Value → Shared → Prop} {s : Shared}
theorem enum_item0 {e it : Addr} {i : Nat} {x old : Value} {J : Heap → Prop} {t1 : Nat} {Q : Value → Shared → Prop} (he : IsEnum s.heap e it i old) (hne : e ≠ it)
    (hJ : ∀ h h' : Heap, J h → (∀ o, h.get? it = some o → h'.get? it = some o) → J h')
    (nx : ∀ Q' : Value → Shared → Prop, (∀ h', J h' → Heap.SameBut it s.heap h' → Q' x { s with heap := h', toks := t1 }) → wpAny (model prog w) A (Builtin.SmallTypes.nextOf (.ref it)) Q' E s)
    (hQ : ∀ h', IsEnumOut h' e it ((i : Int) + 1) x s.heap.objs.size → J h' → h'.get? s.heap.objs.size = some { cls := .type "tuple", data := .seq #[.int i t1, x] } → h'.objs.size = s.heap.objs.size + 1 →
      (∀ b o, b ≠ e → b ≠ it → s.heap.get? b = some o → h'.get? b = some o) → Q (.ref s.heap.objs.size) { s with heap := h', toks := t1 + 1 }) :
    wpAny (model prog w) A (Builtin.«enumerate.__next__» ⟨[.ref e], []⟩) (fun fin s' => ∃ v, fin = .done (.ret v) ∧ Q v s') E s := by
  obtain ⟨hp, g, dr, tk, os⟩ := s
  show wpAny _ _ (field (.ref e) 2 >>= _) _ _ _
  refine wpAny_bind (wpAny_field he rfl (x := .ref it) rfl (wpAny_bind (nx _ fun a1 j1 s1 => ?_)))
  replace s1 : Heap.SameBut it hp a1 := s1
  have e1 : IsEnum a1 e it i old := (s1.2 e hne).trans he
  have hz1 := s1.1
  have lt : e < hp.objs.size := Heap.lt_size he
  show wpAny _ _ (field (.ref e) 3 >>= _) _ _ ⟨a1, g, dr, t1, os⟩
  refine wpAny_bind (wpAny_field e1 rfl (x := rawInt i) rfl ?_)
  show wpAny _ _ (field (.ref e) 4 >>= _) _ _ ⟨a1, g, dr, t1, os⟩
  refine wpAny_bind (wpAny_field e1 rfl (x := .none) rfl ?_)
  show wpAny _ _ (mkInt i >>= _) _ _ ⟨a1, g, dr, t1, os⟩
  refine wpAny_bind (wpAny_mkInt ?_)
  show wpAny _ _ (setField (.ref e) 3 (rawInt ((i : Int) + 1)) >>= _) _ _ ⟨a1, g, dr, t1 + 1, os⟩
  refine wpAny_bind (wpAny_setField_rec e1 (by simp) fun a2 e2 s2 => ?_)
  replace s2 : Heap.SameBut e a1 a2 := s2
  replace e2 : IsEnum a2 e it ((i : Int) + 1) old := e2
  show wpAny _ _ (setField (.ref e) 4 .none >>= _) _ _ ⟨a2, g, dr, t1 + 1, os⟩
  refine wpAny_bind (wpAny_setField_rec e2 (by simp) fun a3 e3 s3 => ?_)
  replace s3 : Heap.SameBut e a2 a3 := s3
  replace e3 : IsEnum a3 e it ((i : Int) + 1) old := e3
  show wpAny _ _ (newTuple [.int i t1, x] >>= _) _ _ ⟨a3, g, dr, t1 + 1, os⟩
  have z3 : a3.objs.size = hp.objs.size := by rw [s3.1, s2.1, hz1]
  refine wpAny_bind (wpAny_newTuple ?_)
  obtain ⟨a4, h4⟩ : ∃ a4, a3.push { cls := .type "tuple", data := .seq #[.int i t1, x] } = a4 := ⟨_, rfl⟩
  have e4 : IsEnum a4 e it ((i : Int) + 1) old := by rw [← h4]; exact Heap.get?_push_of_some _ e3
  have g4 : a4.get? hp.objs.size = some { cls := .type "tuple", data := .seq #[.int i t1, x] } := by rw [← h4, ← z3]; exact Heap.get?_push_size _ rfl
  have z4 : a4.objs.size = hp.objs.size + 1 := by rw [← h4, Heap.size_push, z3]
  have k4 : ∀ b o, b ≠ e → b ≠ it → hp.get? b = some o → a4.get? b = some o := fun b o q1 q2 q => by
    rw [← h4]
    exact Heap.get?_push_of_some _ (s3.extBut b o q1 (s2.extBut b o q1 (s1.extBut b o q2 q)))
  have j4 : J a4 := hJ a1 a4 j1 fun o q => by
    rw [← h4]
    exact Heap.get?_push_of_some _ (s3.extBut it o (Ne.symm hne) (s2.extBut it o (Ne.symm hne) q))
  show wpAny _ _ (Builtin.SmallTypes.ownedTupleIsFree (.ref e) >>= _) _ _ ⟨a3.push _, g, dr, t1 + 1, os⟩
  rw [h4, z3]
  refine wpAny_bind ?_
  unfold Builtin.SmallTypes.ownedTupleIsFree
  refine wpAny_bind (wpAny_field e4 rfl (x := .none) rfl (wpAny_pure ?_))
  simp only [if_true]
  refine wpAny_bind (wpAny_rule (wpAny_bind (wpAny_field e4 rfl (x := old) rfl (wpAny_bind (wpAny_setField_rec e4 (by simp) fun a5 e5 s5 => ?_)))))
  replace s5 : Heap.SameBut e a4 a5 := s5
  replace e5 : IsEnum a5 e it ((i : Int) + 1) x := e5
  show wpAny _ _ (Builtin.SmallTypes.ownedTupleHandOut (.ref e) (.ref hp.objs.size) >>= _) _ _ ⟨a5, g, dr, t1 + 1, os⟩
  refine wpAny_bind ?_
  unfold Builtin.SmallTypes.ownedTupleHandOut
  refine wpAny_bind (wpAny_setField_rec e5 (by simp) fun a6 e6 s6 => ?_)
  replace s6 : Heap.SameBut e a5 a6 := s6
  replace e6 : IsEnumOut a6 e it ((i : Int) + 1) x hp.objs.size := e6
  refine wpAny_setField_rec e6 (by simp) fun a7 e7 s7 => ?_
  replace s7 : Heap.SameBut e a6 a7 := s7
  replace e7 : IsEnumOut a7 e it ((i : Int) + 1) x hp.objs.size := e7
  have up : ∀ b o, b ≠ e → a4.get? b = some o → a7.get? b = some o := fun b o q1 q => s7.extBut b o q1 (s6.extBut b o q1 (s5.extBut b o q1 q))
  refine wpAny_bind (wpAny_letGo (wpAny_pure ⟨_, rfl, hQ a7 e7 (hJ a4 a7 j4 fun o q => up it o (Ne.symm hne) q) (up _ _ (Nat.ne_of_gt lt) g4) (by rw [s7.1, s6.1, s5.1, z4]) fun b o q1 q2 q => up b o q1 (k4 b o q1 q2 q)⟩))
theorem enum_next {e it : Addr} {i : Nat} {x old : Value} {J : Heap → Prop} {t1 : Nat} {Q : Option Value → Shared → Prop} (he : IsEnum s.heap e it i old) (hne : e ≠ it)
    (hJ : ∀ h h' : Heap, J h → (∀ o, h.get? it = some o → h'.get? it = some o) → J h')
    (nx : ∀ (A : Around) (E : Value → Shared → Prop) (Q' : Value → Shared → Prop), (∀ h', J h' → Heap.SameBut it s.heap h' → Q' x { s with heap := h', toks := t1 }) → wpAny (model prog w) A (Builtin.SmallTypes.nextOf (.ref it)) Q' E s)
    (hQ : ∀ h', IsEnumOut h' e it ((i : Int) + 1) x s.heap.objs.size → J h' → h'.get? s.heap.objs.size = some { cls := .type "tuple", data := .seq #[.int i t1, x] } → h'.objs.size = s.heap.objs.size + 1 →
      (∀ b o, b ≠ e → b ≠ it → s.heap.get? b = some o → h'.get? b = some o) → Q (some (.ref s.heap.objs.size)) { s with heap := h', toks := t1 + 1 }) : wpAny (model prog w) A (pyNext (.ref e)) Q E s := by
  have ty : s.TypeIs (.ref e) "enumerate" := ⟨_, he, rfl⟩
  unfold pyNext
  refine wpAny_bind (wpAny_attempt (wpAny_callSpecial?_slot (name := Str.ofString "__next__") ty F.slot_enumerate_next (wpAny_call_entry F.slot_enumerate_next ty F.entry_enumerate_next ?_ (F.args_enumerate_next_1 _))))
  exact enum_item0 he hne hJ (fun Q' => nx _ _ Q') fun h' a b c d k => wpAny_pure (hQ h' a b c d k)
theorem enum_stop {e it : Addr} {i : Nat} {old : Value} {Q : Option Value → Shared → Prop} (he : IsEnum s.heap e it i old)
    (nx : ∀ (A' : Around) (E' : Value → Shared → Prop) (Q' : Value → Shared → Prop), A'.handled = A.handled → (∀ h' z, Heap.ExtBut it s.heap h' → (∃ o, h'.get? z = some o ∧ o.cls = .type "StopIteration") → E' (.ref z) { s with heap := h' }) → wpAny (model prog w) A' (Builtin.SmallTypes.nextOf (.ref it)) Q' E' s)
    (hQ : ∀ h', Heap.ExtBut it s.heap h' → Q none { s with heap := h' }) : wpAny (model prog w) A (pyNext (.ref e)) Q E s := by
  have ty : s.TypeIs (.ref e) "enumerate" := ⟨_, he, rfl⟩
  unfold pyNext
  refine wpAny_bind (wpAny_attempt (wpAny_callSpecial?_slot (name := Str.ofString "__next__") ty F.slot_enumerate_next (wpAny_call_entry F.slot_enumerate_next ty F.entry_enumerate_next ?_ (F.args_enumerate_next_1 _))))
  show wpAny _ _ (field (.ref e) 2 >>= _) _ _ _
  refine wpAny_bind (wpAny_field he rfl (x := .ref it) rfl (wpAny_bind (nx _ _ _ rfl fun h' z ext ⟨o, ho, hc⟩ => ?_)))
  exact wpAny_bind (wpAny_isInstance (T := "StopIteration") (b := true) ⟨o, ho, hc⟩ isSubtype_stop (wpAny_pure (hQ _ ext)))
/-! making one over a tuple -/
theorem meets_enum_tup (l : Addr) (items : Array Value) (n : Nat) (dct : Option Addr) (sl : Array (Option Value)) :
    Meets (Builtin.«enumerate.__new__» ⟨[.type "enumerate", .ref l], []⟩) (fun _ R s => s.heap.get? l = some { cls := .type "tuple", dict := dct, data := .seq items n, slots := sl } ∧
      R (.ok (.ret (.ref (s.heap.push { cls := .type "tuple_iterator", data := .fields #[.ref l, .int 0 0] }).objs.size)))
        { s with heap := (s.heap.push { cls := .type "tuple_iterator", data := .fields #[.ref l, .int 0 0] }).push { cls := .type "enumerate", data := .fields #[.none, .bool false, .ref s.heap.objs.size, rawInt 0, .none, .none] } }) :=
  .of_wp fun prog w A R s h => by
    obtain ⟨hp, g, dr, tk, os⟩ := s
    obtain ⟨hl, h⟩ := h
    have sub := sub_enumerate
    have tl : Heap.IsTuple (Shared.heap ⟨hp, g, dr, tk, os⟩) l items := ⟨_, hl, rfl, n, rfl⟩
    wp_walk using wpAny_loadPart' hl
    refine wpAny_stack_any fun st => wpAny_pure ?_
    split
    · rename_i c _ _ _ _ _
      cases (c == Value.type "enumerate") <;> (wp_walk using wpAny_loadPart' hl, wpAny_pyIter_tuple tl; exact ⟨_, rfl, h⟩)
    · wp_walk using wpAny_loadPart' hl, wpAny_pyIter_tuple tl
      exact ⟨_, rfl, h⟩
theorem call_enum_tup {l : Addr} {items : Array Value} {Q : Value → Shared → Prop} (hT : s.heap.IsTuple l items)
    (h : ∀ h', IsEnum h' (s.heap.objs.size + 1) s.heap.objs.size 0 .none → h'.IsTupleIter s.heap.objs.size l 0 → h'.objs.size = s.heap.objs.size + 2 → (∀ b o, s.heap.get? b = some o → h'.get? b = some o) → Q (.ref (s.heap.objs.size + 1)) { s with heap := h' }) :
    wpAny (model prog w) A (call (.type "enumerate") [.ref l]) Q E s := by
  obtain ⟨⟨c, dct, dt, sl⟩, hl, hc, n, hd⟩ := hT
  dsimp only at hc hd
  subst hc hd
  have z : (s.heap.push { cls := .type "tuple_iterator", data := .fields #[.ref l, .int 0 0] }).objs.size = s.heap.objs.size + 1 := Heap.size_push ..
  refine callType_new F.called_enumerate (by decide) (F.typeCall_enumerate_1 _) (F.newCall_enumerate_1 _) (fun obj => F.args_object_init_2 obj _) F.entry_enumerate_new (meets_enum_tup l items n dct sl) ⟨hl, ?_⟩
  show _ ∧ _
  rw [z]
  have he := Heap.get?_push_size (s.heap.push { cls := .type "tuple_iterator", data := .fields #[.ref l, .int 0 0] }) (o := { cls := .type "enumerate", data := .fields #[.none, .bool false, .ref s.heap.objs.size, rawInt 0, .none, .none] }) rfl
  rw [z] at he
  exact ⟨⟨_, he, rfl⟩, h _ he ⟨_, Heap.get?_push_of_some _ (Heap.get?_push_size _ rfl), rfl, rfl⟩ (by rw [Heap.size_push, z]) fun b o q => Heap.get?_push_of_some _ (Heap.get?_push_of_some _ q)⟩
end
end Kd

set_option Elab.async false
set_option linter.all false
set_option maxRecDepth 100000
namespace Kd
open PySem L2 PySem.Spec PyProof.Rows
open Evl (Ex ex_l ex_t ex_rd fresh_back)
/-! ### the turns of enumerate -/
structure Inner (P : Program) (w : World) (K : PySem.W.Frag) (it : Addr) (T : Nat → Heap → Prop) (got yl : Nat → Hp → V → Prop) (stp : Nat → Hp → Prop) : Prop where
  obj : ∀ i h, T i h → ∃ o, h.get? it = some o ∧ ∀ v, o.data ≠ .cell v
  keep : ∀ i (h h' : Heap), T i h → (∀ o, h.get? it = some o → h'.get? it = some o) → T i h'
  next : ∀ (X : Cx), X.prog = P → X.w = w → X.K = K → ∀ (i : Nat) (pins : List (Addr × Obj)) (s : Shared) (σ : L2.St) (H : Hp) (x : V), Inv X pins σ H s → T i s.heap → got i H x → ∃ (u : Value) (t1 : Nat), RelV x u ∧
    ∀ (A : Around) (E : Value → Shared → Prop) (Q' : Value → Shared → Prop), (∀ h', T (i + 1) h' → Heap.SameBut it s.heap h' → Q' u { s with heap := h', toks := t1 }) → wpAny (model P w) A (Builtin.SmallTypes.nextOf (.ref it)) Q' E s
  conv : ∀ (X : Cx), X.K = K → ∀ (i : Nat) (pins : List (Addr × Obj)) (s : Shared) (σ : L2.St) (H : Hp) (x : V), Inv X pins σ H s → got i H x → yl i H x
  stop : ∀ (X : Cx), X.prog = P → X.w = w → X.K = K → ∀ (i : Nat) (pins : List (Addr × Obj)) (s : Shared) (σ : L2.St) (H : Hp), Inv X pins σ H s → T i s.heap → stp i H →
    ∀ (A : Around) (E : Value → Shared → Prop) (Q' : Value → Shared → Prop), A.handled = none → (∀ h' z, Heap.ExtBut it s.heap h' → (∃ o, h'.get? z = some o ∧ o.cls = .type "StopIteration") → E (.ref z) { s with heap := h' }) → wpAny (model P w) A (Builtin.SmallTypes.nextOf (.ref it)) Q' E s
def ItE (got yl : Nat → Hp → V → Prop) (stp : Nat → Hp → Prop) : It :=
  ⟨fun i H => ∃ x, got i H x, fun i H v H' => ∃ T x, v = .ref T ∧ H T = none ∧ H' = upd H T (.tup [.int (i : Nat), x]) ∧ yl i H x, stp⟩
theorem turn_en {P : Program} {w : World} {K : PySem.W.Frag} {elts : List Expr} {kk : Nat} {tpos : Pos} {e it : Addr} {T : Nat → Heap → Prop} {got yl : Nat → Hp → V → Prop} {stp : Nat → Hp → Prop} (S : Inner P w K it T got yl stp) :
    Turn P w K (.Tuple elts kk tpos) (ItE got yl stp) [e, it] e (fun i h => (∃ old, IsEnum h e it ((i : Nat) : Int) old) ∧ T i h ∧ e ≠ it) where
  mem := List.mem_cons_self
  obj := fun i h ⟨⟨old, he⟩, ht, _⟩ b hb => by
    rcases List.mem_cons.mp hb with z | z
    · subst z
      exact ⟨_, he, fun v q => nomatch q⟩
    · rw [List.mem_singleton] at z
      subst z
      exact S.obj i h ht
  keep := fun i h h' ⟨⟨old, he⟩, ht, hne⟩ k => ⟨⟨old, k e List.mem_cons_self _ he⟩, S.keep i h h' ht (fun o q => k it (List.mem_cons_of_mem _ List.mem_cons_self) o q), hne⟩
  item := fun X hP hw hK hc i pins s σ H E J hf ⟨⟨old, he⟩, ht, hne⟩ ⟨x, hg⟩ => by
    obtain ⟨u, t1, ru, nx⟩ := S.next X hP hw hK i pins s σ H x J ht hg
    have hy := S.conv X hK i pins s σ H x J hg
    subst hP hw hK
    have le : e < s.heap.objs.size := Heap.lt_size he
    have li : it < s.heap.objs.size := by
      obtain ⟨o, q, _⟩ := S.obj i _ ht
      exact Heap.lt_size q
    refine enum_next (J := T (i + 1)) he hne (fun h h' a b => S.keep (i + 1) h h' a b) (fun A E Q' => nx A E Q') fun h1 ho hT1 hT hsz hk => ⟨_, rfl, wpAny_letOwnedTupleGo_enum (s := { s with heap := h1, toks := t1 + 1 }) ho fun h2 he2 sb => ?_⟩
    have nT : s.heap.objs.size ≠ e := Nat.ne_of_gt le
    have hT2 : h2.get? s.heap.objs.size = some { cls := .type "tuple", data := .seq #[.int i t1, u] } := (sb.2 _ nT).trans hT
    have ob : ObjOk X.prog X.w (upd H s.heap.objs.size (.tup [.int (i : Nat), x])) h2 s.heap.objs.size (.tup [.int (i : Nat), x]) :=
      ⟨Evl.sz_of (by show 2 ≤ _; decide), [.int i t1, u], .cons ⟨_, rfl⟩ (.cons ru .nil), ⟨_, hT2, rfl, _, rfl⟩⟩
    have J1 : Inv X pins σ (upd H s.heap.objs.size (.tup [.int (i : Nat), x])) { s with heap := h2, toks := t1 + 1 } :=
      J.turnedNew (ch := [e, it]) (fun b o hb q => (sb.2 b (fun z => hb (by rw [z]; exact List.mem_cons_self))).trans (hk b o (fun z => hb (by rw [z]; exact List.mem_cons_self)) (fun z => hb (by rw [z]; exact List.mem_cons_of_mem _ List.mem_cons_self)) q)) hf (Nat.le_refl _) ob
    refine ⟨.ref s.heap.objs.size, _, J1, rfl, ⟨_, x, rfl, J.hok.fresh (Nat.le_refl _), rfl, hy⟩, ⟨⟨u, ?_⟩, S.keep _ h1 h2 hT1 (fun o q => (sb.2 it (Ne.symm hne)).trans q), hne⟩, fun b hb => ?_⟩
    · show IsEnum h2 e it ((i + 1 : Nat) : Int) u
      rw [Int.natCast_add]
      exact he2
    · have lt : b < s.heap.objs.size := by
        rcases List.mem_cons.mp hb with z | z
        · rw [z]; exact le
        · rw [List.mem_singleton] at z
          rw [z]; exact li
      rw [upd_ne (Nat.ne_of_lt lt)]
      exact (hf b hb).1
  done := fun X hP hw hK hc i pins s σ H E J hf ⟨⟨old, he⟩, ht, hne⟩ hg => by
    have nx := S.stop X hP hw hK i pins s σ H J ht hg
    subst hP hw hK
    obtain ⟨f0, f1, _, f3, f4, f5⟩ := hf it (List.mem_cons_of_mem _ List.mem_cons_self)
    refine enum_stop he (fun A' E' Q' hA q => nx A' E' Q' (hA.trans (J.ok.hd hc)) q) fun h1 eb => ⟨rfl, J.turned (t' := s.toks) (fun b o hb q => eb b o hb q) f0 f1 f3 f4 f5⟩
  self := fun A i s Q E ⟨⟨_, he⟩, _⟩ h => wpAny_pyIter_enum he h
/-! the tuple, the text -/
theorem inner_tup {P : Program} {w : World} {K : PySem.W.Frag} {a it : Addr} : Inner P w K it (fun i h => h.IsTupleIter it a i) (fun i H x => ∃ xs, SqT K H a xs ∧ xs[i]? = some x) (fun i H x => ∀ xs, SqT K H a xs → xs[i]? = some x) (fun i H => ∃ xs : List V, SqT K H a xs ∧ xs.length ≤ i) where
  obj := fun i h ⟨o, ho, _, hd⟩ => ⟨o, ho, fun v q => by rw [hd] at q; cases q⟩
  keep := fun i h h' ⟨o, ho, r⟩ k => ⟨o, k o ho, r⟩
  next := fun X hP hw hK i pins s σ H x J hit ⟨xs, hq, hx⟩ => by
    subst hP hw hK
    obtain ⟨its, rv, p, hz⟩ := J.tuple hq
    obtain ⟨u, hu, ru⟩ := rv.get hx
    exact ⟨u, s.toks, ru, fun A E Q' hQ => RZ.nextOf_tuple_item hit p (x := u) (by simpa using hu) fun h' a b => hQ h' a b⟩
  conv := fun X hK i pins s σ H x J ⟨xs, hq, hx⟩ ys hy => by
    subst hK
    rw [J.tuple_inj hy hq]
    exact hx
  stop := fun X hP hw hK i pins s σ H J hit ⟨xs, hq, hx⟩ A E Q' hA hE => by
    subst hP hw hK
    obtain ⟨its, rv, p, hz⟩ := J.tuple hq
    have hl := rv.length
    exact RZ.nextOf_tuple_end hA hit p (by simp; omega) fun h' z a b => hE h' z a b
theorem inner_str {P : Program} {w : World} {K : PySem.W.Frag} {x : Str} {t : Tok} {it : Addr} : Inner P w K it (fun i h => h.IsStrIter it (strIterType x) x t i) (fun i _ y => ∃ c, x.cps[i]? = some c ∧ y = .str ⟨#[c]⟩) (fun i _ y => ∃ c, x.cps[i]? = some c ∧ y = .str ⟨#[c]⟩) (fun i _ => x.cps[i]? = none) where
  obj := fun i h ⟨o, ho, _, hd⟩ => ⟨o, ho, fun v q => by rw [hd] at q; cases q⟩
  keep := fun i h h' ⟨o, ho, r⟩ k => ⟨o, k o ho, r⟩
  next := fun X hP hw hK i pins s σ H y J hit ⟨c, hx, e⟩ => by
    subst e
    refine ⟨.str ⟨#[c]⟩ s.toks, s.toks + 1, ⟨_, rfl⟩, fun A E Q' hQ => ?_⟩
    cases ha : x.cps.all (· < 128)
    · have et : strIterType x = "str_iterator" := by simp [strIterType, ha]
      rw [et] at hit hQ
      exact wpAny_nextOf_wide_item hit hx fun h' a b => hQ h' a b
    · have et : strIterType x = "str_ascii_iterator" := by simp [strIterType, ha]
      rw [et] at hit hQ
      exact wpAny_nextOf_ascii_item hit hx fun h' a b => hQ h' a b
  conv := fun X hK i pins s σ H x J h => h
  stop := fun X hP hw hK i pins s σ H J hit hx A E Q' hA hE => by
    cases ha : x.cps.all (· < 128)
    · have et : strIterType x = "str_iterator" := by simp [strIterType, ha]
      rw [et] at hit
      exact wpAny_nextOf_wide_end hA hit hx fun h' z a b => hE h' z a b
    · have et : strIterType x = "str_ascii_iterator" := by simp [strIterType, ha]
      rw [et] at hit
      exact wpAny_nextOf_ascii_end hA hit hx fun h' z a b => hE h' z a b
def iEnT (K : PySem.W.Frag) (ta : TA) : TI := fun σ H R => ta σ H fun vs H1 => ∃ a xs, vs = [.ref a] ∧ SqT K H1 a xs ∧ R (ItE (fun i H x => ∃ xs, SqT K H a xs ∧ xs[i]? = some x) (fun i H x => ∀ xs, SqT K H a xs → xs[i]? = some x) (fun i H => ∃ xs : List V, SqT K H a xs ∧ xs.length ≤ i)) H1
def iEnS (ta : TA) : TI := fun σ H R => ta σ H fun vs H1 => ∃ x : Str, vs = [.str x] ∧ R (ItE (fun i _ y => ∃ c, x.cps[i]? = some c ∧ y = .str ⟨#[c]⟩) (fun i _ y => ∃ c, x.cps[i]? = some c ∧ y = .str ⟨#[c]⟩) (fun i _ => x.cps[i]? = none)) H1
section
variable {X : Cx} {e : Expr} {ta : TA} {p pos tpos : Pos} {elts : List Expr} {kk : Nat}
theorem pi_enT (hg : Gl X "enumerate") (hm : X.mg "enumerate" = none) (ha : PA X [e] ta) (hs : starEach [e] X.env = [(false, eval e X.env)]) : PI X (.Tuple elts kk tpos) (.Call (.Name "enumerate" p) [e] [] pos) (iEnT X.K ta) := by
  refine ⟨fun pins s σ H R J h => Call_ (ld_blt J hg hm boot_enumerate (PyProof.Rows.callWith_type1 (thn (ha.run pos pins s σ H _ J h) fun us s1 ⟨vs, H1, J1, r1, a, xs, ex, hq, q⟩ => ?_) hs rfl))⟩
  subst ex
  cases r1 with
  | cons r rr =>
    cases rr
    cases r
    obtain ⟨its, rv, p', hz⟩ := J1.tuple hq
    refine call_enum_tup p' fun h' he hit hsz hk => wpAny_pyIter_enum he ?_
    refine ⟨s1.heap.objs.size + 1, [s1.heap.objs.size + 1, s1.heap.objs.size], _, _, H1, rfl, J1.kept (t' := s1.toks) hk, turn_en inner_tup, ⟨⟨.none, he⟩, hit, Nat.succ_ne_self _⟩, fun b hb => ?_, q⟩
    have le : s1.heap.objs.size ≤ b := by
      rcases List.mem_cons.mp hb with z | z
      · rw [z]; exact Nat.le_add_right _ _
      · rw [List.mem_singleton] at z
        rw [z]; exact Nat.le_refl _
    exact J1.fpOk le (J1.hok.fresh le)
theorem pi_enS (hg : Gl X "enumerate") (hm : X.mg "enumerate" = none) (ha : PA X [e] ta) (hs : starEach [e] X.env = [(false, eval e X.env)]) : PI X (.Tuple elts kk tpos) (.Call (.Name "enumerate" p) [e] [] pos) (iEnS ta) := by
  refine ⟨fun pins s σ H R J h => Call_ (ld_blt J hg hm boot_enumerate (PyProof.Rows.callWith_type1 (thn (ha.run pos pins s σ H _ J h) fun us s1 ⟨vs, H1, J1, r1, x, ex, q⟩ => ?_) hs rfl))⟩
  subst ex
  cases r1 with
  | cons r rr =>
    cases rr
    obtain ⟨t, rfl⟩ := r
    refine call_enumerate_str fun h' he hit hsz hk => wpAny_pyIter_enum he ?_
    refine ⟨s1.heap.objs.size + 1, [s1.heap.objs.size + 1, s1.heap.objs.size], _, _, H1, rfl, J1.kept (t' := s1.toks) hk, turn_en inner_str, ⟨⟨.none, he⟩, hit, Nat.succ_ne_self _⟩, fun b hb => ?_, q⟩
    have le : s1.heap.objs.size ≤ b := by
      rcases List.mem_cons.mp hb with z | z
      · rw [z]; exact Nat.le_add_right _ _
      · rw [List.mem_singleton] at z
        rw [z]; exact Nat.le_refl _
    exact J1.fpOk le (J1.hok.fresh le)
end
section
variable {S : Sh} {ρ : List Sl} {e : Expr} {pos : Pos} {α : Type}
theorem iw_enT {elts : List Expr} {kk : Nat} {tpos p : Pos} {ds : List PyData} (hm : S.mg "enumerate" = none) (ha : VE S ρ e (.im (.tuple ds))) (hg : S.sc.names.lookup ("enumerate" : Str) = some .globalImplicit := by rfl)
    (hse : ∀ X : Cx, starEach [e] X.env = (false, eval e X.env) :: starEach [] X.env := by intro _; rfl) : IW S ρ (.Tuple elts kk tpos) (.Call (.Name "enumerate" p) [e] [] pos) ds.length (fun i => .tuple [.int (i : Nat), ds.getD i .none]) := fun C τ vs σ H k l R q =>
  ⟨iEnT S.K (tCons (wE S e) tNil), fun X hX => by rw [← hX.K]; exact pi_enT (by show X.env.scope.names.lookup _ = _; rw [hX.sc]; exact hg) (by rw [hX.mg]; exact hm) (pa_cons (wE_pe hX) pa_nil (hse X)) (hse X), ha C τ vs σ H k l _ fun v H1 k1 => by
    obtain ⟨B, G, fp, k2, hd⟩ := k1.head
    cases hd with
    | @tup a xs _ hs hx =>
      refine ⟨a, xs, rfl, ex_t k2.bh hs, q _ H1 [_] [_] rfl (fun s hs => by rw [List.mem_singleton] at hs; subst hs; rfl) k1 fun i l os H2 k2 => ?_⟩
      obtain ⟨B, G, fp, k3⟩ := k2
      obtain ⟨f, g, _, ⟨_, u, e1, hd⟩, _⟩ := k3.tail
      cases e1
      cases hd with
      | @tup _ ys _ hs hx =>
        have hs2 := ex_t k3.bh hs
        have hl := hx.len
        refine ⟨fun hi => ⟨⟨ys[i]'(by omega), ys, hs2, List.getElem?_eq_getElem _⟩, fun z H3 y => ?_⟩, fun hi => ⟨ys, hs2, by omega⟩⟩
        obtain ⟨T, x, rfl, hT, rfl, hy⟩ := y
        obtain ⟨d, h1, h1'⟩ := hx.getV (hy ys hs2)
        dsimp only
        rw [getD_some h1]
        exact k3.pair hT (.int _) h1'⟩
theorem iw_enS {elts : List Expr} {kk : Nat} {tpos p : Pos} {x : Str} (hm : S.mg "enumerate" = none) (ha : VE S ρ e (.im (.str x))) (hg : S.sc.names.lookup ("enumerate" : Str) = some .globalImplicit := by rfl)
    (hse : ∀ X : Cx, starEach [e] X.env = (false, eval e X.env) :: starEach [] X.env := by intro _; rfl) : IW S ρ (.Tuple elts kk tpos) (.Call (.Name "enumerate" p) [e] [] pos) x.cps.size (fun i => .tuple [.int (i : Nat), .str ⟨#[x.cps.toList.getD i 0]⟩]) := fun C τ vs σ H k l R q =>
  ⟨iEnS (tCons (wE S e) tNil), fun X hX => pi_enS (by show X.env.scope.names.lookup _ = _; rw [hX.sc]; exact hg) (by rw [hX.mg]; exact hm) (pa_cons (wE_pe hX) pa_nil (hse X)) (hse X), ha C τ vs σ H k l _ fun v H1 k1 => by
    have e1 := k1.str
    subst e1
    refine ⟨x, rfl, q _ H1 [_] [_] rfl (fun s hs => by rw [List.mem_singleton] at hs; subst hs; rfl) k1 fun i l os H2 k2 => ?_⟩
    obtain ⟨B, G, fp, k3⟩ := k2
    refine ⟨fun hi => ⟨⟨_, x.cps[i], Array.getElem?_eq_getElem hi, rfl⟩, fun z H3 y => ?_⟩, fun hi => Array.getElem?_eq_none hi⟩
    obtain ⟨T, y, rfl, hT, rfl, c, hc, rfl⟩ := y
    have e2 : x.cps.toList.getD i 0 = c := by
      rw [List.getD_eq_getElem?_getD, Array.getElem?_toList, hc]
      rfl
    dsimp only
    rw [e2]
    exact k3.pair hT (.int _) (.str _)⟩
theorem ix_enT {elts : List Expr} {kk : Nat} {tpos p : Pos} {xs : List α} {f : α → PyData} (hm : S.mg "enumerate" = none) (ha : VE S ρ e (.im (.tuple (xs.map f)))) (hg : S.sc.names.lookup ("enumerate" : Str) = some .globalImplicit := by rfl)
    (hse : ∀ X : Cx, starEach [e] X.env = (false, eval e X.env) :: starEach [] X.env := by intro _; rfl) : IX S ρ (.Tuple elts kk tpos) (.Call (.Name "enumerate" p) [e] [] pos) (xs.zipIdx.map fun q => PyData.tuple [.int (q.2 : Nat), f q.1]) :=
  iw_eq (iw_enT hm ha hg hse) (by simp) fun i hi => by
    have h1 : i < xs.length := by simpa using hi
    simp [List.getD_eq_getElem?_getD, List.getElem?_map, List.getElem?_zipIdx, List.getElem?_eq_getElem h1]
theorem ix_enS {elts : List Expr} {kk : Nat} {tpos p : Pos} {x : Str} (hm : S.mg "enumerate" = none) (ha : VE S ρ e (.im (.str x))) (hg : S.sc.names.lookup ("enumerate" : Str) = some .globalImplicit := by rfl)
    (hse : ∀ X : Cx, starEach [e] X.env = (false, eval e X.env) :: starEach [] X.env := by intro _; rfl) : IX S ρ (.Tuple elts kk tpos) (.Call (.Name "enumerate" p) [e] [] pos) (x.cps.toList.zipIdx.map fun q => PyData.tuple [.int (q.2 : Nat), .str ⟨#[q.1]⟩]) :=
  iw_eq (iw_enS hm ha hg hse) (by simp) fun i hi => by
    have h1 : i < x.cps.toList.length := by simpa using hi
    simp [List.getD_eq_getElem?_getD, List.getElem?_map, List.getElem?_zipIdx, List.getElem?_eq_getElem h1]
end
end Kd

set_option Elab.async false
set_option linter.all false
set_option maxRecDepth 100000
namespace Kd
open PySem L2 PySem.Spec PyProof.Rows
open Evl (Ex ex_l ex_t ex_rd fresh_back)
/-! ### texts -/
section
variable {S : Sh} {ρ : List Sl} {e e2 e3 o a b tg : Expr} {s1 s2 s3 : Sl} {pos p2 apos : Pos}
theorem od_inC {c : Nat} {z : Str} : OD S (compareOp .In) (.im (.str ⟨#[c]⟩)) (.im (.str z)) (.im (.bool (decide (c ∈ z.cps.toList)))) := fun C l os v1 v2 H k Q q => by
  have q2 := k.str
  have q1 := k.tail.str
  subst q1 q2
  exact ⟨_, fun X _ => op_in_sign, c, z, rfl, rfl, q _ _ (k.tail.tail.flat (.bl _))⟩
theorem od_catS {x y : Str} (h : x.length + y.length ≤ 100000) : OD S (binaryOp .Add) (.im (.str x)) (.im (.str y)) (.im (.str (x ++ y))) := fun C l os v1 v2 H k Q q => by
  have q2 := k.str
  have q1 := k.tail.str
  subst q1 q2
  exact ⟨_, fun X _ => op_add_str, x, y, rfl, rfl, Evl.sz_of h, q _ _ (k.tail.tail.flat (.str _))⟩
theorem op_repS {X : Cx} : OpR X (binaryOp .Mult) (fun x y H Q => ∃ (z : Str) (n : Int), x = .str z ∧ y = .int n ∧ MulOk z n ∧ Q (.str (Txt.mul z n)) H) := fun pins s σ H x y v u Q J rx ry ⟨z, n, ex, ey, hm, q⟩ => by
  subst ex ey
  obtain ⟨t, rfl⟩ := rx
  obtain ⟨t', rfl⟩ := ry
  exact SB.mul hm fun t2 k => ⟨.str (Txt.mul z n), H, J.kept (t' := k) (fun _ _ z => z), ⟨_, rfl⟩, q⟩
theorem od_repS {x : Str} {n : Int} (h : MulOk x n) : OD S (binaryOp .Mult) (.im (.str x)) (.im (.int n)) (.im (.str (Txt.mul x n))) := fun C l os v1 v2 H k Q q => by
  have q2 := k.int
  have q1 := k.tail.str
  subst q1 q2
  exact ⟨_, fun X _ => op_repS, x, n, rfl, rfl, h, q _ _ (k.tail.tail.flat (.str _))⟩
theorem xd_str {x : Str} {i : Int} {c : Nat} (e : L2.atI x.cps.toList i = some c) (hl : x.length ≤ 100000) : XD S (.im (.str x)) (.im (.int i)) (.im (.str ⟨#[c]⟩)) := fun C l os v1 v2 H k Q q => by
  have q2 := k.int
  have q1 := k.tail.str
  subst q1 q2
  exact ⟨rIxS, fun X _ => L2.ix_str, x, i, c, rfl, rfl, Evl.sz_of hl, e, q _ _ (k.tail.tail.flat (.str _))⟩
theorem cd_intS {x : Str} {n : Int} (h : PySem.intText? x = some n) (hl : x.length ≤ 640) : CD S (.type "int") [.im (.str x)] (.im (.int n)) :=
  cd_of1 (fun X _ => call_int_str) fun C l os v H k Q q => by
    have q1 := k.str
    subst q1
    exact ⟨x, n, rfl, h, hl, q _ _ (k.tail.flat (.int _))⟩
theorem Strs.ofDt {K : PySem.W.Frag} {B : Hp} : ∀ {ys : List Str} {vs : List V}, DtA K B vs (ys.map .str) → vs = ys.map V.str
  | [], _, .nil => rfl
  | y :: ys, _, .cons h t => by
    cases h
    rw [Strs.ofDt t]
    rfl
theorem ve_join {x : Str} {ys : List Str} (ho : VE S ρ o (.im (.str x))) (he : VE S ρ e s1) (h1 : s1 = .im (.list (ys.map .str)) ∨ s1 = .al (ys.map .str) ∨ s1 = .ow (ys.map .str)) (hz : (ys.map (·.length)).sum + ys.length * x.length ≤ 16777216)
    (hse : ∀ X : Cx, starEach [e] X.env = [(false, eval e X.env)] := by intro _; rfl) (hbase : ∀ X : Cx, attributeBase o "join" X.env (eval o X.env) = eval o X.env := by intro _; rfl) (hline : (apos.endLine == pos.line) = true := by rfl) :
    VE S ρ (.Call (.Attribute o "join" apos) [e] [] pos) (.im (.str (Txt.join x ys))) :=
  ve_of (t := tM1 (fun x xs H Q => ∃ a p, ∃ ys : List Str, x = .str a ∧ xs = [.ref p] ∧ (SqL S.K H p (ys.map V.str) ∨ SqT S.K H p (ys.map V.str)) ∧ (ys.map (·.length)).sum + ys.length * a.length ≤ 16777216 ∧ Q (.str (Txt.join a ys)) H) (wE S o) (wE S e))
    (fun X hX => by rw [← hX.K]; exact pe_join (wE_pe hX) (wE_pe hX) (hse X) (hbase X) hline) fun C τ vs σ H k l Q q => ho C τ vs σ H k l _ fun v1 H1 k1 => by
    have q1 := k1.str
    subst q1
    refine ⟨⟨x, rfl⟩, he C (_ :: τ) (some _ :: vs) σ H1 k1 (congrArg (· + 1) l) _ fun v2 H2 k2 => ?_⟩
    obtain ⟨B, G, fp, p, zs, k3, rfl, hs, hd⟩ := items_of k2 h1
    have ez := Strs.ofDt hd
    subst ez
    obtain ⟨f1, g1, _, _, k4⟩ := k3.tail
    exact ⟨x, p, ys, rfl, rfl, .inl hs, hz, q _ _ (Ok.flat ⟨_, _, _, k4⟩ (.str _))⟩
/-! range with a step -/
theorem iw_range3 {i j c : Int} {n : Nat} {p : Pos} (hm : S.mg "range" = none) (ha : VE S ρ e (.im (.int i))) (hb : VE S ρ e2 (.im (.int j))) (hc : VE S ρ e3 (.im (.int c))) (hr : RgC i j c n) (hg : S.sc.names.lookup ("range" : Str) = some .globalImplicit := by rfl)
    (hse : ∀ X : Cx, starEach [e, e2, e3] X.env = (false, eval e X.env) :: starEach [e2, e3] X.env := by intro _; rfl) (hse2 : ∀ X : Cx, starEach [e2, e3] X.env = (false, eval e2 X.env) :: starEach [e3] X.env := by intro _; rfl) (hse3 : ∀ X : Cx, starEach [e3] X.env = (false, eval e3 X.env) :: starEach [] X.env := by intro _; rfl)
    (hpl : ∀ X : Cx, (backTo pos (starEach [e2, e3] X.env)).any (·.1) = false := by intro _; rfl) : IW S ρ tg (.Call (.Name "range" p) [e, e2, e3] [] pos) n (fun k => .int (i + (k : Nat) * c)) := fun C τ vs σ H k l R q =>
  ⟨iRng3 (tCons (wE S e) (tCons (wE S e2) (tCons (wE S e3) tNil))), fun X hX => pi_range3 (by show X.env.scope.names.lookup _ = _; rw [hX.sc]; exact hg) (by rw [hX.mg]; exact hm) (pa_cons (wE_pe hX) (pa_cons (wE_pe hX) (pa_cons (wE_pe hX) pa_nil (hse3 X)) (hse2 X)) (hse X)) (hse X) (hpl X), ha C τ vs σ H k l _ fun v H1 k1 => hb C (_ :: τ) (some v :: vs) σ H1 k1 (congrArg (· + 1) l) _ fun w H2 k2 => hc C (_ :: _ :: τ) (some w :: some v :: vs) σ H2 k2 (congrArg (· + 2) l) _ fun u H3 k3 => by
    have q3 := k3.int
    have q2 := k3.tail.int
    have q1 := k3.tail.tail.int
    subst q1 q2 q3
    refine ⟨i, j, c, n, rfl, hr, q (Itc i c n) H3 [] [] rfl (fun _ z => nomatch z) k3.tail.tail.tail fun m l os H2 k2 => ⟨fun hi => ⟨hi, fun x H3 y => ?_⟩, fun hi => hi⟩⟩
    obtain ⟨y1, y2⟩ := y
    subst y1 y2
    exact k2.flat (.int _)⟩
theorem ix_range3 {i j c : Int} {n : Nat} {p : Pos} (hm : S.mg "range" = none) (ha : VE S ρ e (.im (.int i))) (hb : VE S ρ e2 (.im (.int j))) (hc : VE S ρ e3 (.im (.int c))) (hr : RgC i j c n) (hg : S.sc.names.lookup ("range" : Str) = some .globalImplicit := by rfl)
    (hse : ∀ X : Cx, starEach [e, e2, e3] X.env = (false, eval e X.env) :: starEach [e2, e3] X.env := by intro _; rfl) (hse2 : ∀ X : Cx, starEach [e2, e3] X.env = (false, eval e2 X.env) :: starEach [e3] X.env := by intro _; rfl) (hse3 : ∀ X : Cx, starEach [e3] X.env = (false, eval e3 X.env) :: starEach [] X.env := by intro _; rfl)
    (hpl : ∀ X : Cx, (backTo pos (starEach [e2, e3] X.env)).any (·.1) = false := by intro _; rfl) : IX S ρ tg (.Call (.Name "range" p) [e, e2, e3] [] pos) ((List.range n).map fun (k : Nat) => PyData.int (i + (k : Int) * c)) :=
  iw_eq (iw_range3 hm ha hb hc hr hg hse hse2 hse3 hpl) (by simp) fun k hk => (getD_map_range (f := fun (k : Nat) => PyData.int (i + (k : Int) * c)) hk).symm
/-! a list, or another if it is empty -/
theorem ve_orL {ds es : List PyData} (ha : VE S ρ a (.ow ds)) (hb : ds = [] → VE S ρ (.BoolOp .Or [b] pos) (.ow es)) : VE S ρ (.BoolOp .Or [a, b] pos) (.ow (if ds.isEmpty then es else ds)) :=
  ve_of (t := tOrT S.K (wE S a) (wE S (.BoolOp .Or [b] pos))) (fun X hX => by rw [← hX.K]; exact pe_orT (wE_pe hX) (wE_pe hX)) fun C τ vs σ H k l Q q => ha C τ vs σ H k l _ fun v1 H1 k1 => by
    obtain ⟨B, G, fp, k2⟩ := k1
    have k2' := k2
    obtain ⟨f1, g1, _, ⟨p, xs, e1, _, _, hp, hd⟩, k4⟩ := k2.tail
    cases e1
    have hl := hd.len
    cases ds with
    | nil =>
      have ex : xs = [] := List.length_eq_zero_iff.mp hl
      subst ex
      exact ⟨false, .inl ⟨[], .inl (.inl hp), rfl⟩, iteF (hb rfl C τ vs σ H1 ⟨_, _, _, k4⟩ l Q q)⟩
    | cons d ds =>
      cases xs with
      | nil => cases hl
      | cons x xs => exact ⟨true, .inl ⟨_, .inl (.inl hp), rfl⟩, iteT (q _ _ ⟨_, _, _, k2'⟩)⟩
end
end Kd

set_option Elab.async false
set_option linter.all false
set_option maxRecDepth 100000
/-! KdT: the walk told from left to right: each rule leaves what comes behind. -/
namespace Kd
open PySem L2 PySem.Spec PyProof.Rows
open Evl (Ex ex_l ex_t ex_rd fresh_back)
/-- where a name stands among names -/
inductive Ix : List Str → Nat → Str → Prop
  | z {x : Str} {l : List Str} : Ix (x :: l) 0 x
  | s {x y : Str} {l : List Str} {i : Nat} : Ix l i x → Ix (y :: l) (i + 1) x
theorem Ix.get {l : List Str} {i : Nat} {x : Str} (h : Ix l i x) : l[i]? = some x := by
  induction h with
  | z => rfl
  | s _ ih => simpa using ih
def NV (fl : Bool) (τ : List Sl) : Prop := fl = true → ∀ s ∈ τ, noV s = true
theorem NV.cons {fl : Bool} {τ : List Sl} {s : Sl} (h : NV fl τ) : NV (fl && noV s) (s :: τ) := fun e t ht => by
  rw [Bool.and_eq_true] at e
  rcases List.mem_cons.mp ht with rfl | z
  · exact e.2
  · exact h e.1 t z
theorem NV.im {fl : Bool} {τ : List Sl} {d : PyData} (h : NV fl τ) : NV fl (.im d :: τ) := fun e t ht => by
  rcases List.mem_cons.mp ht with rfl | z
  · rfl
  · exact h e t z
def XH (S : Sh) (C : Cz) (τ : List Sl) (vs σ : List (Option V)) (X : Str → Prop) : Prop := ∀ c cv ρ' H', X c → S.mg c = some cv → Ok S.K C (τ ++ ρ') (vs ++ σ) H' → S.E cv none H'
theorem XH.cons {S : Sh} {C : Cz} {τ : List Sl} {vs σ : List (Option V)} {X : Str → Prop} {s : Sl} {o : Option V} (h : XH S C τ vs σ X) : XH S C (s :: τ) (o :: vs) σ X := fun c cv ρ' H' x m k => h c cv ρ' H' x m k.tail
def CE (S : Sh) (fl : Bool) (ρ : List Sl) (e : Expr) (X : Str → Prop) (Q : Sl → List Sl → Prop) : Prop :=
  ∀ (C : Cz) (τ : List Sl) (vs σ : List (Option V)) (H : Hp), Ok S.K C (τ ++ ρ) (vs ++ σ) H → τ.length = vs.length → NV fl τ →
  ∀ QQ : VK, (∀ r ρ' v H', Q r ρ' → Ok S.K C (r :: (τ ++ ρ')) (some v :: (vs ++ σ)) H' → QQ v H') → XH S C τ vs σ X → wE S e σ H QQ
def CT (S : Sh) (fl : Bool) (ρ : List Sl) (e : Expr) (X : Str → Prop) (Q : Bool → List Sl → Prop) : Prop :=
  ∀ (C : Cz) (τ : List Sl) (vs σ : List (Option V)) (H : Hp), Ok S.K C (τ ++ ρ) (vs ++ σ) H → τ.length = vs.length → NV fl τ →
  ∀ QQ : Bool → Hp → Prop, (∀ r ρ' H', Q r ρ' → Ok S.K C (τ ++ ρ') (vs ++ σ) H' → QQ r H') → XH S C τ vs σ X → wT S e σ H QQ
def CW (S : Sh) (fl : Bool) (ρ : List Sl) (e : Expr) (X : Str → Prop) (Q : Bool → List Sl → Prop) : Prop :=
  ∀ (C : Cz) (τ : List Sl) (vs σ : List (Option V)) (H : Hp), Ok S.K C (τ ++ ρ) (vs ++ σ) H → τ.length = vs.length → NV fl τ →
  ∀ QQ : Bool → Hp → Prop, (∀ r ρ' H', Q r ρ' → Ok S.K C (τ ++ ρ') (vs ++ σ) H' → QQ r H') → XH S C τ vs σ X → wW S e σ H QQ
def CA (S : Sh) (fl : Bool) (ρ : List Sl) (es : List Expr) (X : Str → Prop) (Q : List Sl → List Sl → Prop) : Prop :=
  ∀ (C : Cz) (τ : List Sl) (vs σ : List (Option V)) (H : Hp), Ok S.K C (τ ++ ρ) (vs ++ σ) H → τ.length = vs.length → NV fl τ →
  ∀ QQ : List V → Hp → Prop, (∀ rs ρ' ws H', Q rs ρ' → ws.length = rs.length → Ok S.K C (rs.reverse ++ (τ ++ ρ')) (ws.reverse.map some ++ (vs ++ σ)) H' → QQ ws H') → XH S C τ vs σ X → wA S es σ H QQ
/-- arguments that become data of the base -/
def CI (S : Sh) (fl : Bool) (ρ : List Sl) (es : List Expr) (X : Str → Prop) (Q : List PyData → List Sl → Prop) : Prop :=
  ∀ (C : Cz) (τ : List Sl) (vs σ : List (Option V)) (H : Hp), Ok S.K C (τ ++ ρ) (vs ++ σ) H → τ.length = vs.length → NV fl τ →
  ∀ QQ : List V → Hp → Prop, (∀ ds ρ' ws H', Q ds ρ' → ws.length = ds.length → Ok S.K C ((ds.map Sl.im).reverse ++ (τ ++ ρ')) (ws.reverse.map some ++ (vs ++ σ)) H' → QQ ws H') → XH S C τ vs σ X → wA S es σ H QQ
def CO (S : Sh) (fl : Bool) (ρ : List Sl) (e : Option Expr) (X : Str → Prop) (Q : Option Int → List Sl → Prop) : Prop :=
  ∀ (C : Cz) (τ : List Sl) (vs σ : List (Option V)) (H : Hp), Ok S.K C (τ ++ ρ) (vs ++ σ) H → τ.length = vs.length → NV fl τ →
  ∀ QQ : Option Int → Hp → Prop, (∀ r ρ' H', Q r ρ' → Ok S.K C (τ ++ ρ') (vs ++ σ) H' → QQ r H') → XH S C τ vs σ X → wO S e σ H QQ
/-! the questions of values -/
def OK2 (S : Sh) (f : Value → Value → Sem Value) (s1 s2 : Sl) (K : Sl → Prop) : Prop := ∃ s3, OD S f s1 s2 s3 ∧ K s3
def XK2 (S : Sh) (s1 s2 : Sl) (K : Sl → Prop) : Prop := ∃ s3, XD S s1 s2 s3 ∧ K s3
def SK2 (S : Sh) (s1 : Sl) (lo hi : Option Int) (K : Sl → Prop) : Prop := ∃ s3, SD S s1 lo hi s3 ∧ K s3
def CK (S : Sh) (f : Value) (rs : List Sl) (K : Sl → Prop) : Prop := ∃ s3, CD S f rs s3 ∧ K s3
def BoK (s : Sl) (K : Bool → Prop) : Prop := ∃ c, s = .im (.bool c) ∧ K c
def InK (s : Sl) (K : Int → Prop) : Prop := ∃ c, s = .im (.int c) ∧ K c
def ImK (s : Sl) (K : PyData → Prop) : Prop := (∃ d, s = .im d ∧ K d) ∨ (∃ ds, s = .ow ds ∧ K (.list ds))
def ChK (S : Sh) (op op' : CmpOp) (c : Expr) (ρ : List Sl) (s1 s2 : Sl) (K : Bool → Prop) : Prop := ∃ i j n, s1 = .im (.int i) ∧ s2 = .im (.int j) ∧ VE S ρ c (.im (.int n)) ∧ K (cmpI op i j && cmpI op' j n)
section
variable {S : Sh} {fl : Bool} {ρ : List Sl} {e a b o : Expr} {rest es : List Expr} {pos p2 p : Pos} {X : Str → Prop} {Q : Sl → List Sl → Prop} {QB : Bool → List Sl → Prop} {r : Sl}
theorem bok {c : Bool} {K : Bool → Prop} (h : K c) : BoK (.im (.bool c)) K := ⟨c, rfl, h⟩
theorem ink {c : Int} {K : Int → Prop} (h : K c) : InK (.im (.int c)) K := ⟨c, rfl, h⟩
theorem imk {d : PyData} {K : PyData → Prop} (h : K d) : ImK (.im d) K := .inl ⟨d, rfl, h⟩
theorem imk_ow {d : List PyData} {K : PyData → Prop} (h : K (.list d)) : ImK (.ow d) K := .inr ⟨d, rfl, h⟩
theorem chk {op op' : CmpOp} {c : Expr} {i j n : Int} {K : Bool → Prop} (hc : VE S ρ c (.im (.int n))) (h : K (cmpI op i j && cmpI op' j n)) : ChK S op op' c ρ (.im (.int i)) (.im (.int j)) K := ⟨i, j, n, rfl, rfl, hc, h⟩
theorem ok2 {f : Value → Value → Sem Value} {s1 s2 s3 : Sl} {K : Sl → Prop} (h : OD S f s1 s2 s3) (k : K s3) : OK2 S f s1 s2 K := ⟨s3, h, k⟩
theorem xk2 {s1 s2 s3 : Sl} {K : Sl → Prop} (h : XD S s1 s2 s3) (k : K s3) : XK2 S s1 s2 K := ⟨s3, h, k⟩
theorem sk2 {s1 s3 : Sl} {lo hi : Option Int} {K : Sl → Prop} (h : SD S s1 lo hi s3) (k : K s3) : SK2 S s1 lo hi K := ⟨s3, h, k⟩
theorem ck {f : Value} {rs : List Sl} {s3 : Sl} {K : Sl → Prop} (h : CD S f rs s3) (k : K s3) : CK S f rs K := ⟨s3, h, k⟩
/-! from and to the other judgements -/
theorem ce_ve (h : VE S ρ e r) (q : Q r ρ) : CE S fl ρ e X Q := fun C τ vs σ H k l nv QQ qq xx => h C τ vs σ H k l QQ fun v H' k2 => qq r ρ v H' q k2
theorem ve_ce (h : CE S false ρ e (fun _ => False) (fun r' ρ' => r' = r ∧ ρ' = ρ)) : VE S ρ e r := fun C τ vs σ H k l Q q => h C τ vs σ H k l (fun z => nomatch z) Q (fun r' ρ' v H' z k2 => by
  obtain ⟨e1, e2⟩ := z
  subst e1 e2
  exact q v H' k2) (fun _ _ _ _ z => z.elim)
theorem ce_er {P : PyData → Prop} (h : ER S ρ e P) (q : ∀ d, P d → Q (.im d) ρ) : CE S true ρ e X Q := fun C τ vs σ H k l nv QQ qq xx => h C τ vs σ H k l (nv rfl) QQ fun v H' d hd k2 => qq _ ρ v H' (q d hd) k2
theorem ce_vx {c : Str} (h : VX S ρ e c) (q : X c) : CE S fl ρ e X Q := fun C τ vs σ H k l nv QQ qq xx => h C τ vs σ H k l QQ fun H' cv k2 m => xx c cv ρ H' q m k2
theorem er_ce {P : PyData → Prop} (h : CE S true ρ e (fun _ => False) (fun r ρ' => ρ' = ρ ∧ ImK r P)) : ER S ρ e P := fun C τ vs σ H k l nv QQ qq => h C τ vs σ H k l (fun _ => nv) QQ (fun r ρ' v H' z k2 => by
  obtain ⟨rfl, ⟨d, rfl, hd⟩ | ⟨ds, rfl, hd⟩⟩ := z
  · exact qq v H' d hd k2
  · exact qq v H' _ hd k2.freeze) (fun _ _ _ _ z => z.elim)
theorem ct_vt {c : Bool} (h : VT S ρ e c) (q : QB c ρ) : CT S fl ρ e X QB := fun C τ vs σ H k l nv QQ qq xx => h C τ vs σ H k l QQ fun H' k2 => qq c ρ H' q k2
theorem vt_ct {c : Bool} (h : CT S false ρ e (fun _ => False) (fun r' ρ' => r' = c ∧ ρ' = ρ)) : VT S ρ e c := fun C τ vs σ H k l Q q => h C τ vs σ H k l (fun z => nomatch z) Q (fun r' ρ' H' z k2 => by
  obtain ⟨e1, e2⟩ := z
  subst e1 e2
  exact q H' k2) (fun _ _ _ _ z => z.elim)
theorem va_ci {ds : List PyData} (h : CI S false ρ es (fun _ => False) (fun r' ρ' => r' = ds ∧ ρ' = ρ)) : VA S ρ es (ds.map Sl.im) := fun C τ vs σ H k l Q q => h C τ vs σ H k l (fun z => nomatch z) Q (fun r' ρ' ws H' z lw k2 => by
  obtain ⟨e1, e2⟩ := z
  subst e1 e2
  exact q ws H' (by rw [List.length_map]; exact lw) k2) (fun _ _ _ _ z => z.elim)
theorem ce_imp {Q' : Sl → List Sl → Prop} (h : CE S fl ρ e X Q') (i : ∀ r ρ', Q' r ρ' → Q r ρ') : CE S fl ρ e X Q := fun C τ vs σ H k l nv QQ qq xx => h C τ vs σ H k l nv QQ (fun r ρ' v H' z k2 => qq r ρ' v H' (i r ρ' z) k2) xx
/-! constants, names -/
theorem ce_int {i : Int} {j : Nat} (q : Q (.im (.int i)) ρ) : CE S fl ρ (.Constant (.int i) j pos) X Q := ce_ve ve_int q
theorem ce_bl {i : Bool} {j : Nat} (q : Q (.im (.bool i)) ρ) : CE S fl ρ (.Constant (.bool i) j pos) X Q := ce_ve ve_bl q
theorem ce_non {j : Nat} (q : Q (.im .none) ρ) : CE S fl ρ (.Constant .none j pos) X Q := ce_ve ve_non q
theorem ce_str {x : Str} {j : Nat} (q : Q (.im (.str x)) ρ) : CE S fl ρ (.Constant (.str x) j pos) X Q := ce_ve ve_str q
theorem ce_var {i : Nat} {x : Str} {r : Sl} (hN : Ix S.N i x) (hs : lookR ρ i = some r) (hv : Vis S.sc x) (q : Q r ρ) (hd : (x == ("__debug__" : Str)) = false := by decide) (hcd : (x == ("__classdict__" : Str)) = false := by decide) : CE S fl ρ (.Name x pos) X Q := ce_ve (ve_var i hs hN.get hv hd hcd) q
theorem ce_globI {x : Str} {n : Int} (hm : ∃ t, S.mg x = some (.int n t)) (hg : S.sc.names.lookup x = some .globalImplicit) (q : Q (.im (.int n)) ρ) (hd : (x == ("__debug__" : Str)) = false := by decide) : CE S fl ρ (.Name x pos) X Q := ce_ve (ve_globI hm hg hd) q
/-! operators -/
theorem ce_bin {op : Operator} (h : CE S fl ρ a X fun s1 ρ1 => CE S (fl && noV s1) ρ1 b X fun s2 ρ2 => OK2 S (binaryOp op) s1 s2 fun s3 => Q s3 ρ2) : CE S fl ρ (.BinOp a op b pos) X Q := fun C τ vs σ H k l nv QQ qq xx =>
  ⟨tOp (wOp S (binaryOp op)) (wE S a) (wE S b), fun X hX => pe_op (wOp_op hX) (wE_pe hX) (wE_pe hX), h C τ vs σ H k l nv _ (fun s1 ρ1 v1 H1 h1 k1 =>
    h1 C (s1 :: τ) (some v1 :: vs) σ H1 k1 (congrArg (· + 1) l) nv.cons _ (fun s2 ρ2 v2 H2 z k2 => by
      obtain ⟨s3, od, h3⟩ := z
      exact od C _ _ v1 v2 H2 k2 QQ fun v H' k3 => qq s3 ρ2 v H' h3 k3) xx.cons) xx⟩
theorem ce_cmp {op : CmpOp} (h : CE S fl ρ a X fun s1 ρ1 => CE S (fl && noV s1) ρ1 b X fun s2 ρ2 => OK2 S (compareOp op) s1 s2 fun s3 => Q s3 ρ2) (hm : behindInMarks op b = false := by walk_at "kd mark") : CE S fl ρ (.Compare a [op] [b] pos) X Q := fun C τ vs σ H k l nv QQ qq xx =>
  ⟨tOp (wOp S (compareOp op)) (wE S a) (wE S b), fun X hX => pe_cmpR (wOp_op hX) (wE_pe hX) (wE_pe hX) hm, h C τ vs σ H k l nv _ (fun s1 ρ1 v1 H1 h1 k1 =>
    h1 C (s1 :: τ) (some v1 :: vs) σ H1 k1 (congrArg (· + 1) l) nv.cons _ (fun s2 ρ2 v2 H2 z k2 => by
      obtain ⟨s3, od, h3⟩ := z
      exact od C _ _ v1 v2 H2 k2 QQ fun v H' k3 => qq s3 ρ2 v H' h3 k3) xx.cons) xx⟩
theorem ct_cmp {op : CmpOp} (h : CE S fl ρ a X fun s1 ρ1 => CE S (fl && noV s1) ρ1 b X fun s2 ρ2 => OK2 S (compareOp op) s1 s2 fun s3 => BoK s3 fun c => QB c ρ2) (hm : behindInMarks op b = false := by walk_at "kd mark") : CT S fl ρ (.Compare a [op] [b] pos) X QB := fun C τ vs σ H k l nv QQ qq xx =>
  ⟨tTest (tOp (wOp S (compareOp op)) (wE S a) (wE S b)), fun X hX => pt_cmpR (wOp_op hX) (wE_pe hX) (wE_pe hX) hm, h C τ vs σ H k l nv _ (fun s1 ρ1 v1 H1 h1 k1 =>
    h1 C (s1 :: τ) (some v1 :: vs) σ H1 k1 (congrArg (· + 1) l) nv.cons _ (fun s2 ρ2 v2 H2 z k2 => by
      obtain ⟨s3, od, c, rfl, h3⟩ := z
      exact od C _ _ v1 v2 H2 k2 _ fun v H' k3 => by
        have e := k3.bl
        subst e
        exact ⟨c, rfl, qq c ρ2 H' h3 k3.tail⟩) xx.cons) xx⟩
theorem ct_val (h : CE S fl ρ e X fun r ρ1 => BoK r fun c => QB c ρ1) (he : ∀ (X : Cx) whole, isTrue e X.env whole = (do let v ← whole; standAt e.pos; holding [v] (truthy v)) := by intro _ _; rfl) : CT S fl ρ e X QB := fun C τ vs σ H k l nv QQ qq xx =>
  ⟨tB (wE S e), fun X hX => pt_val (wE_pe hX) (he X), h C τ vs σ H k l nv _ (fun r ρ1 v H3 z k3 => by
      obtain ⟨c, rfl, h3⟩ := z
      have e := k3.bl
      subst e
      exact ⟨c, rfl, qq c ρ1 H3 h3 k3.tail⟩) xx⟩
theorem ce_chain {op op' : CmpOp} {c : Expr} (h : CE S fl ρ a X fun s1 ρ1 => CE S (fl && noV s1) ρ1 b X fun s2 ρ2 => ChK S op op' c ρ2 s1 s2 fun t => Q (.im (.bool t)) ρ2) (o1 : isCmp op = true := by rfl) (o2 : isCmp op' = true := by rfl)
    (hm : lastMarks [op, op'] [b, c] = false := by with_unfolding_all rfl) : CE S fl ρ (.Compare a [op, op'] [b, c] pos) X Q := fun C τ vs σ H k l nv QQ qq xx =>
  ⟨tChain (rI0 fun i j => .bl (cmpI op i j)) (rI0 fun i j => .bl (cmpI op' i j)) (wE S a) (wE S b) (wE S c), fun X hX => pe_chain (cmp_int o1) (cmp_int o2) (wE_pe hX) (wE_pe hX) (wE_pe hX) hm, h C τ vs σ H k l nv _ (fun s1 ρ1 v1 H1 h1 k1 =>
    h1 C (s1 :: τ) (some v1 :: vs) σ H1 k1 (congrArg (· + 1) l) nv.cons _ (fun s2 ρ2 v2 H2 z k2 => by
      obtain ⟨i, j, n, rfl, rfl, hc, q⟩ := z
      have e2 := k2.int
      have e1 := k2.tail.int
      subst e1 e2
      refine ⟨i, j, rfl, rfl, _, rfl, ?_⟩
      cases hk : cmpI op i j with
      | false =>
        rw [hk] at q
        exact iteF (qq _ _ _ _ q (k2.tail.tail.flat (.bl _)))
      | true =>
        refine iteT (hc C (_ :: _ :: τ) (_ :: _ :: vs) σ H2 k2 (congrArg (· + 2) l) _ fun v3 H3 k3 => ?_)
        have e3 := k3.int
        subst e3
        rw [hk] at q
        exact ⟨j, n, rfl, rfl, qq _ _ _ _ q (k3.tail.tail.tail.flat (.bl _))⟩) xx.cons) xx⟩
theorem ct_chain {op op' : CmpOp} {c : Expr} (h : CE S fl ρ a X fun s1 ρ1 => CE S (fl && noV s1) ρ1 b X fun s2 ρ2 => ChK S op op' c ρ2 s1 s2 fun t => QB t ρ2) (o1 : isCmp op = true := by rfl) (o2 : isCmp op' = true := by rfl)
    (hm : lastMarks [op, op'] [b, c] = false := by with_unfolding_all rfl) : CT S fl ρ (.Compare a [op, op'] [b, c] pos) X QB := fun C τ vs σ H k l nv QQ qq xx =>
  ⟨tTest (tChain (rI0 fun i j => .bl (cmpI op i j)) (rI0 fun i j => .bl (cmpI op' i j)) (wE S a) (wE S b) (wE S c)), fun X hX => pt_chain (cmp_int o1) (cmp_int o2) (wE_pe hX) (wE_pe hX) (wE_pe hX) hm, h C τ vs σ H k l nv _ (fun s1 ρ1 v1 H1 h1 k1 =>
    h1 C (s1 :: τ) (some v1 :: vs) σ H1 k1 (congrArg (· + 1) l) nv.cons _ (fun s2 ρ2 v2 H2 z k2 => by
      obtain ⟨i, j, n, rfl, rfl, hc, q⟩ := z
      have e2 := k2.int
      have e1 := k2.tail.int
      subst e1 e2
      refine ⟨i, j, rfl, rfl, _, rfl, ?_⟩
      cases hk : cmpI op i j with
      | false =>
        rw [hk] at q
        exact iteF ⟨_, rfl, qq _ _ _ q k2.tail.tail⟩
      | true =>
        refine iteT (hc C (_ :: _ :: τ) (_ :: _ :: vs) σ H2 k2 (congrArg (· + 2) l) _ fun v3 H3 k3 => ?_)
        have e3 := k3.int
        subst e3
        rw [hk] at q
        exact ⟨j, n, rfl, rfl, _, rfl, qq _ _ _ q k3.tail.tail.tail⟩) xx.cons) xx⟩
/-! and, or, not, if -/
theorem ce_one {op : BoolOp} (h : CE S fl ρ e X Q) : CE S fl ρ (.BoolOp op [e] pos) X Q := fun C τ vs σ H k l nv QQ qq xx => ⟨wE S e, fun X hX => pe_one (wE_pe hX), h C τ vs σ H k l nv QQ qq xx⟩
theorem ce_and (h : CE S fl ρ a X fun s1 ρ1 => BoK s1 fun c => (c = true → CE S fl ρ1 (.BoolOp .And (b :: rest) pos) X Q) ∧ (c = false → Q (.im (.bool false)) ρ1)) : CE S fl ρ (.BoolOp .And (a :: b :: rest) pos) X Q := fun C τ vs σ H k l nv QQ qq xx =>
  ⟨tAndV (wE S a) (wE S _), fun X hX => pe_and (wE_pe hX) (wE_pe hX), h C τ vs σ H k l nv _ (fun s1 ρ1 v1 H1 z k1 => by
    obtain ⟨c, rfl, h1, h2⟩ := z
    have e1 := k1.bl
    subst e1
    refine ⟨c, rfl, ?_⟩
    cases c with
    | false => exact iteF (qq _ _ _ _ (h2 rfl) k1)
    | true => exact iteT (h1 rfl C τ vs σ H1 k1.tail l nv QQ qq xx)) xx⟩
theorem ce_or (h : CE S fl ρ a X fun s1 ρ1 => BoK s1 fun c => (c = true → Q (.im (.bool true)) ρ1) ∧ (c = false → CE S fl ρ1 (.BoolOp .Or (b :: rest) pos) X Q)) : CE S fl ρ (.BoolOp .Or (a :: b :: rest) pos) X Q := fun C τ vs σ H k l nv QQ qq xx =>
  ⟨tOrV (wE S a) (wE S _), fun X hX => pe_or (wE_pe hX) (wE_pe hX), h C τ vs σ H k l nv _ (fun s1 ρ1 v1 H1 z k1 => by
    obtain ⟨c, rfl, h1, h2⟩ := z
    have e1 := k1.bl
    subst e1
    refine ⟨c, rfl, ?_⟩
    cases c with
    | true => exact iteT (qq _ _ _ _ (h1 rfl) k1)
    | false => exact iteF (h2 rfl C τ vs σ H1 k1.tail l nv QQ qq xx)) xx⟩
theorem ce_not (h : CE S fl ρ a X fun s1 ρ1 => BoK s1 fun c => Q (.im (.bool (!c))) ρ1) : CE S fl ρ (.UnaryOp .Not a pos) X Q := fun C τ vs σ H k l nv QQ qq xx =>
  ⟨tNotV (wE S a), fun X hX => pe_not (wE_pe hX), h C τ vs σ H k l nv _ (fun s1 ρ1 v1 H1 z k1 => by
    obtain ⟨c, rfl, h1⟩ := z
    have e1 := k1.bl
    subst e1
    exact ⟨c, rfl, qq _ _ _ _ h1 (k1.tail.flat (.bl _))⟩) xx⟩
theorem ct_w (h : CW S fl ρ e X QB) : CT S fl ρ e X QB := fun C τ vs σ H k l nv QQ qq xx => ⟨wW S e, fun X hX => (wW_pw hX).pt, h C τ vs σ H k l nv QQ qq xx⟩
theorem cw_and1 (h : CT S fl ρ a X QB) : CW S fl ρ (.BoolOp .And [a] pos) X QB := fun C τ vs σ H k l nv QQ qq xx => ⟨wT S a, fun X hX => pw_and1 (wT_pt hX), h C τ vs σ H k l nv QQ qq xx⟩
theorem cw_or1 (h : CT S fl ρ a X QB) : CW S fl ρ (.BoolOp .Or [a] pos) X QB := fun C τ vs σ H k l nv QQ qq xx => ⟨wT S a, fun X hX => pw_or1 (wT_pt hX), h C τ vs σ H k l nv QQ qq xx⟩
theorem cw_and (h : CT S fl ρ a X fun c ρ1 => (c = true → CW S fl ρ1 (.BoolOp .And (b :: rest) pos) X QB) ∧ (c = false → QB false ρ1)) : CW S fl ρ (.BoolOp .And (a :: b :: rest) pos) X QB := fun C τ vs σ H k l nv QQ qq xx =>
  ⟨tAnd (wT S a) (wW S _), fun X hX => pw_and (wT_pt hX) (wW_pw hX), h C τ vs σ H k l nv _ (fun c ρ1 H1 z k1 => by
    cases c with
    | false => exact iteF (qq _ _ _ (z.2 rfl) k1)
    | true => exact iteT (z.1 rfl C τ vs σ H1 k1 l nv QQ qq xx)) xx⟩
theorem cw_or (h : CT S fl ρ a X fun c ρ1 => (c = true → QB true ρ1) ∧ (c = false → CW S fl ρ1 (.BoolOp .Or (b :: rest) pos) X QB)) : CW S fl ρ (.BoolOp .Or (a :: b :: rest) pos) X QB := fun C τ vs σ H k l nv QQ qq xx =>
  ⟨tOr (wT S a) (wW S _), fun X hX => pw_or (wT_pt hX) (wW_pw hX), h C τ vs σ H k l nv _ (fun c ρ1 H1 z k1 => by
    cases c with
    | true => exact iteT (qq _ _ _ (z.1 rfl) k1)
    | false => exact iteF (z.2 rfl C τ vs σ H1 k1 l nv QQ qq xx)) xx⟩
theorem ct_not (h : CT S fl ρ a X fun c ρ1 => QB (!c) ρ1) : CT S fl ρ (.UnaryOp .Not a pos) X QB := fun C τ vs σ H k l nv QQ qq xx =>
  ⟨tNot (wT S a), fun X hX => pt_not (wT_pt hX), h C τ vs σ H k l nv _ (fun c ρ1 H1 z k1 => qq _ _ _ z k1) xx⟩
theorem ce_if {t : Expr} (h : CT S fl ρ t X fun c ρ1 => (c = true → CE S fl ρ1 a X Q) ∧ (c = false → CE S fl ρ1 b X Q)) : CE S fl ρ (.IfExp t a b pos) X Q := fun C τ vs σ H k l nv QQ qq xx =>
  ⟨tIf (wT S t) (wE S a) (wE S b), fun X hX => pe_ifExp (wT_pt hX) (wE_pe hX) (wE_pe hX), h C τ vs σ H k l nv _ (fun c ρ1 H1 z k1 => by
    cases c with
    | true => exact iteT (z.1 rfl C τ vs σ H1 k1 l nv QQ qq xx)
    | false => exact iteF (z.2 rfl C τ vs σ H1 k1 l nv QQ qq xx)) xx⟩
/-! arguments, displays -/
theorem ca_nil {Q : List Sl → List Sl → Prop} (q : Q [] ρ) : CA S fl ρ [] X Q := fun C τ vs σ H k l nv QQ qq xx => ⟨tNil, fun X hX => pa_nil, qq [] ρ [] H q rfl k⟩
theorem ca_cons {Q : List Sl → List Sl → Prop} (h : CE S fl ρ e X fun r ρ1 => CA S (fl && noV r) ρ1 es X fun rs ρ2 => Q (r :: rs) ρ2) (hp : ∀ X : Cx, starEach (e :: es) X.env = (false, eval e X.env) :: starEach es X.env := by intro _; rfl) : CA S fl ρ (e :: es) X Q := fun C τ vs σ H k l nv QQ qq xx =>
  ⟨tCons (wE S e) (wA S es), fun X hX => pa_cons (wE_pe hX) (wA_pa hX) (hp X), h C τ vs σ H k l nv _ (fun r ρ1 v1 H1 h1 k1 =>
    h1 C (r :: τ) (some v1 :: vs) σ H1 k1 (congrArg (· + 1) l) nv.cons _ (fun rs ρ2 ws H2 z lw k2 => qq (r :: rs) ρ2 (v1 :: ws) H2 z (congrArg (· + 1) lw) (by
      rw [List.reverse_cons, List.append_assoc, List.reverse_cons, List.map_append, List.append_assoc]
      exact k2)) xx.cons) xx⟩
theorem ci_nil {Q : List PyData → List Sl → Prop} (q : Q [] ρ) : CI S fl ρ [] X Q := fun C τ vs σ H k l nv QQ qq xx => ⟨tNil, fun X hX => pa_nil, qq [] ρ [] H q rfl k⟩
theorem ci_cons {Q : List PyData → List Sl → Prop} (h : CE S fl ρ e X fun r ρ1 => ImK r fun d => CI S fl ρ1 es X fun ds ρ2 => Q (d :: ds) ρ2) (hp : ∀ X : Cx, starEach (e :: es) X.env = (false, eval e X.env) :: starEach es X.env := by intro _; rfl) : CI S fl ρ (e :: es) X Q := fun C τ vs σ H k l nv QQ qq xx =>
  ⟨tCons (wE S e) (wA S es), fun X hX => pa_cons (wE_pe hX) (wA_pa hX) (hp X), h C τ vs σ H k l nv _ (fun r ρ1 v1 H1 h1 k1 => by
    have fin : ∀ d, Ok S.K C (.im d :: (τ ++ ρ1)) (some v1 :: (vs ++ σ)) H1 → CI S fl ρ1 es X (fun ds ρ2 => Q (d :: ds) ρ2) → wA S es σ H1 (fun ws H2 => QQ (v1 :: ws) H2) := fun d k2 h2 =>
      h2 C (.im d :: τ) (some v1 :: vs) σ H1 k2 (congrArg (· + 1) l) nv.im _ (fun ds ρ2 ws H2 z lw k3 => qq (d :: ds) ρ2 (v1 :: ws) H2 z (congrArg (· + 1) lw) (by
        rw [List.map_cons, List.reverse_cons, List.append_assoc, List.reverse_cons, List.map_append, List.append_assoc]
        exact k3)) xx.cons
    rcases h1 with ⟨d, rfl, h2⟩ | ⟨ds, rfl, h2⟩
    · exact fin d k1 h2
    · exact fin _ k1.freeze h2) xx⟩
theorem ce_tup {j} (h : CI S fl ρ es X fun ds ρ1 => ds.length ≤ 100000 ∧ Q (.im (.tuple ds)) ρ1) : CE S fl ρ (.Tuple es j pos) X Q := fun C τ vs σ H k l nv QQ qq xx =>
  ⟨tTup (wA S es), fun X hX => pe_tup (wA_pa hX), h C τ vs σ H k l nv _ (fun ds ρ1 ws H1 z lw k1 => by
    refine ⟨Evl.sz_of (by have := z.1; omega), fun p hp => qq _ _ _ _ z.2 ?_⟩
    obtain ⟨B, G, fp, k2, hd⟩ := k1.rev lw
    exact (k2.lay hp).put (.tup (.inl (.inl upd_same)) (hd.up (Ex.new (Ok.fresh k2 hp).1)))) xx⟩
theorem ce_lst (h : CI S fl ρ es X fun ds ρ1 => ds.length ≤ 100000 ∧ Q (.ow ds) ρ1) : CE S fl ρ (.List es pos) X Q := fun C τ vs σ H k l nv QQ qq xx =>
  ⟨tLst (wA S es), fun X hX => pe_lst (wA_pa hX), h C τ vs σ H k l nv _ (fun ds ρ1 ws H1 z lw k1 => by
    refine ⟨Evl.sz_of (by have := z.1; omega), fun p hp => qq _ _ _ _ z.2 ?_⟩
    obtain ⟨B, G, fp, k2, hd⟩ := k1.rev lw
    exact k2.putOwn hp hd) xx⟩
/-! subscripts, slices -/
theorem ce_ix (h : CE S fl ρ a X fun s1 ρ1 => CE S (fl && noV s1) ρ1 b X fun s2 ρ2 => XK2 S s1 s2 fun s3 => Q s3 ρ2) (hs : PlainIx b := by exact fun _ _ => rfl) : CE S fl ρ (.Subscript a b pos) X Q := fun C τ vs σ H k l nv QQ qq xx =>
  ⟨tOp (wIx S) (wE S a) (wE S b), fun X hX => pe_ix (wIx_ix hX) (wE_pe hX) (wE_pe hX) hs, h C τ vs σ H k l nv _ (fun s1 ρ1 v1 H1 h1 k1 =>
    h1 C (s1 :: τ) (some v1 :: vs) σ H1 k1 (congrArg (· + 1) l) nv.cons _ (fun s2 ρ2 v2 H2 z k2 => by
      obtain ⟨s3, od, h3⟩ := z
      exact od C _ _ v1 v2 H2 k2 QQ fun v H' k3 => qq s3 ρ2 v H' h3 k3) xx.cons) xx⟩
theorem co_none {Q : Option Int → List Sl → Prop} (q : Q none ρ) : CO S fl ρ none X Q := fun C τ vs σ H k l nv QQ qq xx => vo_none C τ vs σ H k l QQ fun H' k2 => qq none ρ H' q k2
theorem co_some {Q : Option Int → List Sl → Prop} {i : Int} (h : VE S ρ e (.im (.int i))) (q : Q (some i) ρ) : CO S fl ρ (some e) X Q := fun C τ vs σ H k l nv QQ qq xx => vo_some h C τ vs σ H k l QQ fun H' k2 => qq (some i) ρ H' q k2
theorem ce_slice {lo hi : Option Expr} (h : CE S fl ρ a X fun s1 ρ1 => CO S false ρ1 lo X fun l ρ2 => CO S false ρ2 hi X fun u ρ3 => SK2 S s1 l u fun s3 => Q s3 ρ3) : CE S fl ρ (.Subscript a (.Slice lo hi none p2) pos) X Q := fun C τ vs σ H k l nv QQ qq xx =>
  ⟨tSl (wSl S) (wE S a) (wO S lo) (wO S hi), fun X hX => pe_slice (wSl_sl hX) (wE_pe hX) (wO_po hX) (wO_po hX), h C τ vs σ H k l nv _ (fun s1 ρ1 v1 H1 h1 k1 =>
    h1 C (s1 :: τ) (some v1 :: vs) σ H1 k1 (congrArg (· + 1) l) (fun z => nomatch z) _ (fun ll ρ2 H2 h2 k2 => h2 C (s1 :: τ) (some v1 :: vs) σ H2 k2 (congrArg (· + 1) l) (fun z => nomatch z) _ (fun u ρ3 H3 z k3 => by
      obtain ⟨s3, od, h3⟩ := z
      exact od C _ _ v1 H3 k3 QQ fun v H' k4 => qq s3 ρ3 v H' h3 k4) xx.cons) xx.cons) xx⟩
/-! calls -/
theorem ce_callB (id : String) {x : Str} {p : Pos} (hm : S.mg x = none) (h : CA S fl ρ (e :: es) X fun rs ρ1 => CK S (.builtin id) rs fun s3 => Q s3 ρ1) (hg : S.sc.names.lookup x = some .globalImplicit := by rfl) (hv : bootBuiltins x = some (.builtin id) := by decide +kernel)
    (hn : x ≠ "__name__" := by decide) (hdb : (x == ("__debug__" : Str)) = false := by decide)
    (he : ∀ X : Cx, starEach (e :: es) X.env = (false, eval e X.env) :: starEach es X.env := by intro _; rfl) (hpl : ∀ X : Cx, (backTo pos (starEach es X.env)).any (·.1) = false := by intro _; rfl) : CE S fl ρ (.Call (.Name x p) (e :: es) [] pos) X Q := fun C τ vs σ H k l nv QQ qq xx =>
  ⟨tCB (wCall S (.builtin id)) (wA S (e :: es)), fun X hX => pe_callB (wCall_call hX) (by show X.env.scope.names.lookup x = _; rw [hX.sc]; exact hg) (by rw [hX.mg]; exact hm) hv (wA_pa hX) hn hdb (he X) (hpl X),
    h C τ vs σ H k l nv _ (fun rs ρ1 ws H1 z lw k1 => by
      obtain ⟨s3, cd, h3⟩ := z
      exact cd C _ _ ws H1 lw k1 QQ fun v H' k2 => qq s3 ρ1 v H' h3 k2) xx⟩
theorem ce_callT (id : String) {x : Str} {p : Pos} (hm : S.mg x = none) (h : CA S fl ρ (e :: es) X fun rs ρ1 => CK S (.type id) rs fun s3 => Q s3 ρ1) (hg : S.sc.names.lookup x = some .globalImplicit := by rfl) (hv : bootBuiltins x = some (.type id) := by decide +kernel)
    (hn : x ≠ "__name__" := by decide) (hdb : (x == ("__debug__" : Str)) = false := by decide)
    (he : ∀ X : Cx, starEach (e :: es) X.env = (false, eval e X.env) :: starEach es X.env := by intro _; rfl) (hpl : ∀ X : Cx, (backTo pos (starEach es X.env)).any (·.1) = false := by intro _; rfl) : CE S fl ρ (.Call (.Name x p) (e :: es) [] pos) X Q := fun C τ vs σ H k l nv QQ qq xx =>
  ⟨tCB (wCall S (.type id)) (wA S (e :: es)), fun X hX => pe_callTy (wCall_call hX) (by show X.env.scope.names.lookup x = _; rw [hX.sc]; exact hg) (by rw [hX.mg]; exact hm) hv (wA_pa hX) hn hdb (he X) (hpl X),
    h C τ vs σ H k l nv _ (fun rs ρ1 ws H1 z lw k1 => by
      obtain ⟨s3, cd, h3⟩ := z
      exact cd C _ _ ws H1 lw k1 QQ fun v H' k2 => qq s3 ρ1 v H' h3 k2) xx⟩
/-- a def that gives data -/
def CallG (G : List PyData → Oc → Prop) (ds : List PyData) (K : PyData → Prop) (X : Str → Prop) : Prop := ∃ oc, G ds oc ∧ match oc with | .ret d => K d | .exc c => X c
theorem ce_call {x : Str} {k : Nat} {G : List PyData → Oc → Prop} {p : Pos} (hF : Fn S.toMd k x G) (h : CI S fl ρ (e :: es) X fun ds ρ1 => CallG G ds (fun d => Q (.im d) ρ1) X) (hk : k ≤ S.k := by walk_at "kd lvl") (hg : S.sc.names.lookup x = some .globalImplicit := by rfl)
    (hdb : (x == ("__debug__" : Str)) = false := by decide)
    (he : ∀ X : Cx, starEach (e :: es) X.env = (false, eval e X.env) :: starEach es X.env := by intro _; rfl) (hpl : ∀ X : Cx, (backTo pos (starEach es X.env)).any (·.1) = false := by intro _; rfl) : CE S fl ρ (.Call (.Name x p) (e :: es) [] pos) X Q := by
  obtain ⟨f, fd, ps, F, hm, hkp, hb⟩ := hF
  intro C τ vs σ H kk l nv QQ qq xx
  refine ⟨tCall (spG S.K S.mg G) [] S.E (wA S (e :: es)), fun X hX => ?_, h C τ vs σ H kk l nv _ (fun ds ρ1 ws H1 z lw k1 => ?_) xx⟩
  · refine pe_call (CX := L2N.CX S.P S.w) (k := k) (f := f) (fd := fd) (ps := ps) (ds := []) ?_ (hX.room.mono hk) (by show X.env.scope.names.lookup x = _; rw [hX.sc]; exact hg) (by rw [hX.mg]; exact hm) (by rw [hX.K]; exact hkp) (by rw [hX.K]; exact hb) .nil (pass_S hX) (wA_pa hX) hdb (he X) (hpl X)
    rw [hX.prog, hX.w, hX.K, hX.mg, hX.base]
    exact F
  · obtain ⟨B, G', fp, k2, hd⟩ := k1.rev lw
    obtain ⟨oc, hG, h3⟩ := z
    cases oc with
    | ret d =>
      refine ⟨B, ds, .ret d, hG, k2.bh, by rw [List.append_nil]; exact hd, fun v H' B' b h e n hv => qq _ _ v H' h3 ?_⟩
      obtain ⟨G', k3⟩ := k2.back b h e n
      exact k3.put hv
    | exc c =>
      exact ⟨B, ds, .exc c, hG, k2.bh, by rw [List.append_nil]; exact hd, fun H' cv e m => xx c cv ρ1 H' h3 m ⟨B, G', fp, k2.grow e⟩⟩
theorem cret {G : List PyData → Oc → Prop} {ds : List PyData} {d : PyData} {K : PyData → Prop} (g : G ds (.ret d)) (q : K d) : CallG G ds K X := ⟨.ret d, g, q⟩
theorem cexc {G : List PyData → Oc → Prop} {ds : List PyData} {c : Str} {K : PyData → Prop} (g : G ds (.exc c)) (q : X c) : CallG G ds K X := ⟨.exc c, g, q⟩
end
end Kd

set_option Elab.async false
set_option linter.all false
set_option maxRecDepth 100000
/-! KdU: statements, told from left to right. -/
namespace Kd
open PySem L2 PySem.Spec PyProof.Rows
open Evl (Ex ex_l ex_t ex_rd fresh_back)
def AppK (i : Nat) (ρ : List Sl) (d : PyData) (K : List Sl → Prop) : Prop := ∃ ds, ρ[i]? = some (.ow ds) ∧ ds.length < 100000 ∧ ρ.all noV = true ∧ K (ρ.set i (.ow (ds ++ [d])))
theorem appk {i : Nat} {ρ : List Sl} {d : PyData} {K : List Sl → Prop} {ds : List PyData} (h : ρ[i]? = some (.ow ds)) (hl : ds.length < 100000) (nv : ρ.all noV = true) (k : K (ρ.set i (.ow (ds ++ [d])))) : AppK i ρ d K := ⟨ds, h, hl, nv, k⟩
def ExtK (i : Nat) (ρ : List Sl) (r : Sl) (K : List Sl → Prop) : Prop := ∃ ds es, r = .ow es ∧ ρ[i]? = some (.ow ds) ∧ ds.length + es.length ≤ 100000 ∧ ρ.all noV = true ∧ K (ρ.set i (.ow (ds ++ es)))
theorem extk {i : Nat} {ρ : List Sl} {K : List Sl → Prop} {ds es : List PyData} (h : ρ[i]? = some (.ow ds)) (hl : ds.length + es.length ≤ 100000) (nv : ρ.all noV = true) (k : K (ρ.set i (.ow (ds ++ es)))) : ExtK i ρ (.ow es) K := ⟨ds, es, rfl, h, hl, nv, k⟩
def SetK (i : Nat) (ρ : List Sl) (s : Sl) (d : PyData) (K : List Sl → Prop) : Prop := ∃ ds k j, s = .im (.int k) ∧ ρ[i]? = some (.ow ds) ∧ ixN ds.length k = some j ∧ ρ.all noV = true ∧ K (ρ.set i (.ow (ds.set j d)))
theorem setk {i : Nat} {ρ : List Sl} {d : PyData} {K : List Sl → Prop} {ds : List PyData} {k : Int} {j : Nat} (h : ρ[i]? = some (.ow ds)) (hj : ixN ds.length k = some j) (nv : ρ.all noV = true) (q : K (ρ.set i (.ow (ds.set j d)))) : SetK i ρ (.im (.int k)) d K := ⟨ds, k, j, rfl, h, hj, nv, q⟩
section
variable {S : Sh} {ρ : List Sl} {e a b o : Expr} {rest es : List Expr} {pos p2 p : Pos} {P : Pst}
theorem XH.ofMeet {C : Cz} {τ : List Sl} {vs σ : List (Option V)} {D : Ends} (m : Meet S C τ vs D P) : XH S C τ vs σ P.ex := fun c cv ρ' H' x hm k => m.ex c cv ρ' σ H' x hm k
theorem rs_asgC {i : Nat} {x : Str} (hN : Ix S.N i x) (h : CE S true ρ e P.ex fun r ρ1 => P.nx (ρ1.set i r)) (hnd : S.N.Nodup := by walk_at "kd nd") (hx : Loc S.sc x := by walk_at "kd loc") (hf : S.fa = true ∨ S.sc.names.lookup x = some .local := by first | exact .inl rfl | exact .inr rfl)
    (hs : ∀ X : Cx, X.env.scope = S.sc → swapsWith e (some (.Name x p)) pos.line X.env = pure false := by intro _ _; rfl) : RS S ρ (.Assign [.Name x p] e pos) P :=
  rs_of (t := tAsg (wE S e) (gName i)) (fun X hX => ps_set (by rw [hX.N]; exact hnd) (by rw [hX.N]; exact hN.get) (by rw [hX.sc]; exact hx) (wE_pe hX) (hs X hX.sc) (hf.elim (fun z => .inl (hX.fn z x)) fun z => .inr (by rw [hX.sc]; exact z)))
    fun C τ vs σ H D k l nv m => h C τ vs σ H k l (fun _ => nv) _ (fun r ρ1 v H' q k2 => m.nx _ _ H' q (by
      have k3 := Ok.set (i := τ.length + i) k2
      rw [off_set, l, List.set_append_right _ _ (Nat.le_add_right _ _), Nat.add_sub_cancel_left] at k3
      exact k3)) (.ofMeet m)
theorem rs_exprC (h : CE S true ρ e P.ex fun _ ρ1 => P.nx ρ1) (hs : ∀ X : Cx, swapsWith e none pos.line X.env = pure false := by intro _; rfl) : RS S ρ (.Expr e pos) P :=
  rs_of (t := tDrop (wE S e)) (fun X hX => ps_expr (wE_pe hX) (hs X)) fun C τ vs σ H D k l nv m => h C τ vs σ H k l (fun _ => nv) _ (fun r ρ1 v H' q k2 => m.nx ρ1 σ H' q k2.tail) (.ofMeet m)
theorem rs_retC (h : CE S true ρ e P.ex fun r ρ1 => P.rt r ρ1) : RS S ρ (.Return (some e) pos) P :=
  rs_of (t := tRet (wE S e)) (fun X hX => ps_ret (wE_pe hX)) fun C τ vs σ H D k l nv m => h C τ vs σ H k l (fun _ => nv) _ (fun r ρ1 v H' q k2 => m.rt _ ρ1 v σ H' q k2) (.ofMeet m)
/-- return e, a new list as data -/
theorem rs_retI (h : CE S true ρ e P.ex fun r ρ1 => ImK r fun d => P.rt (.im d) ρ1) : RS S ρ (.Return (some e) pos) P :=
  rs_of (t := tRet (wE S e)) (fun X hX => ps_ret (wE_pe hX)) fun C τ vs σ H D k l nv m => h C τ vs σ H k l (fun _ => nv) _ (fun r ρ1 v H' z k2 => by
    rcases z with ⟨d, rfl, q⟩ | ⟨ds, rfl, q⟩
    · exact m.rt _ ρ1 v σ H' q k2
    · exact m.rt _ ρ1 v σ H' q k2.freeze) (.ofMeet m)
/-- return x, x an own list -/
theorem rs_retOw {i : Nat} {x : Str} {ds : List PyData} (hN : Ix S.N i x) (hr : ρ[i]? = some (.ow ds)) (hv : Vis S.sc x) (q : P.rt (.im (.list ds)) (ρ.set i (.im (.list ds)))) (hd : (x == ("__debug__" : Str)) = false := by decide) (hcd : (x == ("__classdict__" : Str)) = false := by decide) : RS S ρ (.Return (some (.Name x p)) pos) P := by
  have h1 : RS S (ρ.set i (.im (.list ds))) (.Return (some (.Name x p)) pos) P := rs_ret (ve_var i (by
    unfold lookR
    have hl : i < ρ.length := by
      rcases Nat.lt_or_ge i ρ.length with z | z
      · exact z
      · rw [List.getElem?_eq_none z] at hr; cases hr
    rw [List.getElem?_set_self hl]
    rfl) hN.get hv hd hcd) q
  intro C τ vs σ H D k l nv m
  have k2 := k.ice (i := τ.length + i) (off_get hr)
  rw [off_set] at k2
  exact h1 C τ vs σ H D k2 l nv m
theorem rs_ifC {t : Expr} {a b : List Stmt} (h : CT S true ρ t P.ex fun c ρ1 => (c = true → RB S ρ1 a P) ∧ (c = false → RB S ρ1 b P)) : RS S ρ (.If t a b pos) P :=
  rs_of (t := tIfS (wT S t) (wB S a) (wB S b)) (fun X hX => ps_if (wT_pt hX) (wB_pss hX) (wB_pss hX)) fun C τ vs σ H D k l nv m => h C τ vs σ H k l (fun _ => nv) _ (fun c ρ1 H' z k2 => by
    cases c with
    | true => exact iteT (z.1 rfl C τ vs σ H' D k2 l nv m)
    | false => exact iteF (z.2 rfl C τ vs σ H' D k2 l nv m)) (.ofMeet m)
theorem rs_augC {i : Nat} {x : Str} {u w : Int} {op : Operator} {f : Int → Int → Int} (hN : Ix S.N i x) (hr : ρ[i]? = some (.im (.int u))) (h : VE S ρ e (.im (.int w))) (ho : ∀ X : Cx, PIp X op (ipI f)) (q : P.nx (ρ.set i (.im (.int (f u w))))) (hnd : S.N.Nodup := by walk_at "kd nd") (hx : Loc S.sc x := by walk_at "kd loc")
    (hf : S.fa = true ∨ S.sc.names.lookup x = some .local := by first | exact .inl rfl | exact .inr rfl) : RS S ρ (.AugAssign (.Name x p) op e pos) P := rs_aug i h ho q hr hN.get hnd hx hf
theorem rs_augAdd {i : Nat} {x : Str} {u w : Int} (hN : Ix S.N i x) (hr : ρ[i]? = some (.im (.int u))) (h : VE S ρ e (.im (.int w))) (q : P.nx (ρ.set i (.im (.int (u + w))))) (hnd : S.N.Nodup := by walk_at "kd nd") (hx : Loc S.sc x := by walk_at "kd loc")
    (hf : S.fa = true ∨ S.sc.names.lookup x = some .local := by first | exact .inl rfl | exact .inr rfl) : RS S ρ (.AugAssign (.Name x p) .Add e pos) P := rs_augC hN hr h (fun _ => ip_add) q hnd hx hf
theorem rs_augSub {i : Nat} {x : Str} {u w : Int} (hN : Ix S.N i x) (hr : ρ[i]? = some (.im (.int u))) (h : VE S ρ e (.im (.int w))) (q : P.nx (ρ.set i (.im (.int (u - w))))) (hnd : S.N.Nodup := by walk_at "kd nd") (hx : Loc S.sc x := by walk_at "kd loc")
    (hf : S.fa = true ∨ S.sc.names.lookup x = some .local := by first | exact .inl rfl | exact .inr rfl) : RS S ρ (.AugAssign (.Name x p) .Sub e pos) P := rs_augC hN hr h (fun _ => ip_sub) q hnd hx hf
/-- x.append(e) -/
theorem rs_appC {i : Nat} {x : Str} {ds0 : List PyData} {p1 p2 p3 : Pos} (hN : Ix S.N i x) (hr0 : ρ[i]? = some (.ow ds0)) (hv : Vis S.sc x) (h : CE S true ρ e P.ex fun r ρ1 => ImK r fun d => AppK i ρ1 d P.nx)
    (hd : (x == ("__debug__" : Str)) = false := by decide) (hcd : (x == ("__classdict__" : Str)) = false := by decide)
    (hfew : ∀ X : Cx, ((backTo p3 (starEach [e] X.env)).all (fun x => !x.1) && (backToKw p3 (keywordEach [] X.env)).all (fun x => x.1.isSome) && decide ([e].length + ([] : List Keyword).length + (if ([] : List Keyword).isEmpty then 0 else 1) < 30)) = true := by intro _; rfl)
    (hline : (p2.endLine == p3.line) = true := by rfl) (hse : ∀ X : Cx, starEach [e] X.env = (false, eval e X.env) :: starEach [] X.env := by intro _; rfl)
    (hs : ∀ X : Cx, swapsWith (.Call (.Attribute (.Name x p1) "append" p2) [e] [] p3) none pos.line X.env = pure false := by intro _; rfl) : RS S ρ (.Expr (.Call (.Attribute (.Name x p1) "append" p2) [e] [] p3) pos) P :=
  rs_of (t := tDrop (tBM S.K "list" rAppend (tVar i) (tCons (wE S e) tNil))) (fun X hX => ps_expr (by
      rw [← hX.K]
      exact pe_bm PySem.F.plainAttrs_list PySem.F.slot_list_append PySem.F.type_list_append mt_append (pe_var (by rw [hX.N]; exact hN.get) (by rw [hX.sc]; exact hv) hd hcd) (pa_cons (wE_pe hX) pa_nil (hse X)) rfl (hfew X) hline (hse X) rfl) (hs X)) fun C τ vs σ H D k l nvt m => by
    obtain ⟨v, ev, k1⟩ := k.alias (off_get (τ := τ) hr0) (by intro z; cases z)
    rw [l, List.getElem?_append_right (Nat.le_add_right _ _), Nat.add_sub_cancel_left] at ev
    refine ⟨v, ev, ?_, h C τ vs σ H k l (fun _ => nvt) _ (fun r ρ1 y H1 z k2 => ?_) (.ofMeet m)⟩
    · have kd := k1.dt (d := .list ds0) rfl
      cases kd with
      | lst hs _ => exact .inl ⟨rfl, _, hs⟩
    · have fin : ∀ d, Ok S.K C (.im d :: (τ ++ ρ1)) (some y :: (vs ++ σ)) H1 → AppK i ρ1 d P.nx → ∃ l xs y', v = .ref l ∧ [y] = [y'] ∧ H1 l = some (.lst xs) ∧ xs.length < sizeLine ∧ D.nx σ (upd H1 l (.lst (xs ++ [y']))) := fun d k2 z => by
        obtain ⟨ds, hr, hz, nv, q⟩ := z
        obtain ⟨B, G, fp, k3, hy⟩ := k2.head
        obtain ⟨p, xs, e1, hp, hd, fin⟩ := k3.change (nv_all nvt nv) (off_get (τ := τ) hr)
        rw [l, List.getElem?_append_right (Nat.le_add_right _ _), Nat.add_sub_cancel_left, ev] at e1
        cases e1
        refine ⟨p, xs, y, rfl, rfl, hp, Evl.sz_lt (by rw [hd.len]; exact hz), m.nx _ σ _ q ?_⟩
        have k4 := fin (xs ++ [y]) (ds ++ [d]) (hd.app (.cons hy .nil))
        rw [off_set] at k4
        exact k4
      rcases z with ⟨d, rfl, z⟩ | ⟨ds, rfl, z⟩
      · exact fin d k2 z
      · exact fin _ k2.freeze z
/-- x.extend(e), e a new list -/
theorem rs_extC {i : Nat} {x : Str} {ds0 : List PyData} {p1 p2 p3 : Pos} (hN : Ix S.N i x) (hr0 : ρ[i]? = some (.ow ds0)) (hv : Vis S.sc x) (h : CE S true ρ e P.ex fun r ρ1 => ExtK i ρ1 r P.nx)
    (hd : (x == ("__debug__" : Str)) = false := by decide) (hcd : (x == ("__classdict__" : Str)) = false := by decide)
    (hfew : ∀ X : Cx, ((backTo p3 (starEach [e] X.env)).all (fun x => !x.1) && (backToKw p3 (keywordEach [] X.env)).all (fun x => x.1.isSome) && decide ([e].length + ([] : List Keyword).length + (if ([] : List Keyword).isEmpty then 0 else 1) < 30)) = true := by intro _; rfl)
    (hline : (p2.endLine == p3.line) = true := by rfl) (hse : ∀ X : Cx, starEach [e] X.env = (false, eval e X.env) :: starEach [] X.env := by intro _; rfl)
    (hs : ∀ X : Cx, swapsWith (.Call (.Attribute (.Name x p1) "extend" p2) [e] [] p3) none pos.line X.env = pure false := by intro _; rfl) : RS S ρ (.Expr (.Call (.Attribute (.Name x p1) "extend" p2) [e] [] p3) pos) P :=
  rs_of (t := tDrop (tBM S.K "list" rExtend (tVar i) (tCons (wE S e) tNil))) (fun X hX => ps_expr (by
      rw [← hX.K]
      exact pe_bm PySem.F.plainAttrs_list PySem.F.slot_list_extend PySem.F.type_list_extend mt_extend (pe_var (by rw [hX.N]; exact hN.get) (by rw [hX.sc]; exact hv) hd hcd) (pa_cons (wE_pe hX) pa_nil (hse X)) rfl (hfew X) hline (hse X) rfl) (hs X)) fun C τ vs σ H D k l nvt m => by
    obtain ⟨v, ev, k1⟩ := k.alias (off_get (τ := τ) hr0) (by intro z; cases z)
    rw [l, List.getElem?_append_right (Nat.le_add_right _ _), Nat.add_sub_cancel_left] at ev
    refine ⟨v, ev, ?_, h C τ vs σ H k l (fun _ => nvt) _ (fun r ρ1 y H1 z k2 => ?_) (.ofMeet m)⟩
    · have kd := k1.dt (d := .list ds0) rfl
      cases kd with
      | lst hs _ => exact .inl ⟨rfl, _, hs⟩
    · obtain ⟨ds, es, rfl, hr, hz, nv, q⟩ := z
      obtain ⟨B, G, fp, k3⟩ := k2
      obtain ⟨f1, g1, _, ⟨b, zs, e3, _, _, hb, hd2⟩, k4⟩ := k3.tail
      obtain ⟨p, xs, e1, hp, hd, fin⟩ := k4.change (nv_all nvt nv) (off_get (τ := τ) hr)
      rw [l, List.getElem?_append_right (Nat.le_add_right _ _), Nat.add_sub_cancel_left, ev] at e1
      cases e1
      cases e3
      refine ⟨p, b, xs, zs, rfl, rfl, hp, hb, Evl.sz_of (by rw [hd.len, hd2.len]; exact hz), m.nx _ σ _ q ?_⟩
      have k6 := fin (xs ++ zs) (ds ++ es) (hd.app hd2)
      rw [off_set] at k6
      exact k6
/-- x[ix] = e -/
theorem rs_setC {i : Nat} {x : Str} {p1 p2 : Pos} {ix : Expr} (hN : Ix S.N i x) (hv : Vis S.sc x) (h : CE S true ρ e P.ex fun r ρ1 => ImK r fun d => ∃ s, VE S ρ1 ix s ∧ SetK i ρ1 s d P.nx)
    (hd : (x == ("__debug__" : Str)) = false := by decide) (hcd : (x == ("__classdict__" : Str)) = false := by decide)
    (hs : ∀ X : Cx, swapsWithSole [.Subscript (.Name x p1) ix p2] e pos.line X.env = pure false := by intro _; rfl) (hw : ∀ X : Cx, swappedStores [.Subscript (.Name x p1) ix p2] e X.env = pure none := by intro _; rfl)
    (h1 : ∀ X : Cx, (assignEach [.Subscript (.Name x p1) ix p2] X.env).map (·.2) = [assign (.Subscript (.Name x p1) ix p2) X.env] := by intro _; rfl)
    (ha : ∀ (X : Cx) v, assign (.Subscript (.Name x p1) ix p2) X.env v = (do
      let ov ← holding [v] (eval (.Name x p1) X.env)
      let iv ← holding [v, ov] (eval ix X.env)
      standAt p2
      holding [v, ov, iv] (setItem ov iv v)
      release [v, ov, iv] []) := by intro _ _; rfl) : RS S ρ (.Assign [.Subscript (.Name x p1) ix p2] e pos) P :=
  rs_of (t := tAsg (wE S e) (gSub (tVar i) (wE S ix) rSetL)) (fun X hX => ps_asg (wE_pe hX) (pg_sub (pe_var (by rw [hX.N]; exact hN.get) (by rw [hX.sc]; exact hv) hd hcd) (wE_pe hX) set_list (ha X)) (hs X) (hw X) (h1 X)) fun C τ vs σ H D k l nvt m => h C τ vs σ H k l (fun _ => nvt) _ (fun r ρ1 y H1 z k1 => by
    have fin : ∀ d, Ok S.K C (.im d :: (τ ++ ρ1)) (some y :: (vs ++ σ)) H1 → (∃ s, VE S ρ1 ix s ∧ SetK i ρ1 s d P.nx) → gSub (tVar i) (wE S ix) rSetL y σ H1 D.nx := fun d k1 z => by
      obtain ⟨s, hi, ds, kk, j, rfl, hr, hj, nv, q⟩ := z
      obtain ⟨v, ev, k2⟩ := k1.alias (i := τ.length + i + 1) (s := .ow ds) (by rw [List.getElem?_cons_succ]; exact off_get hr) (by intro z; cases z)
      rw [List.getElem?_cons_succ] at ev
      have ev' := ev
      rw [l, List.getElem?_append_right (Nat.le_add_right _ _), Nat.add_sub_cancel_left] at ev
      refine ⟨v, ev, hi C (_ :: _ :: τ) (some v :: some y :: vs) σ H1 k2 (congrArg (· + 2) l) _ fun w H2 k3 => ?_⟩
      have e3 := k3.int
      subst e3
      have k3' : Ok S.K C (.im (.int _) :: .al ds :: .im d :: (τ ++ ρ1)) (some _ :: some v :: some y :: (vs ++ σ)) H2 := k3
      obtain ⟨B, G, fp, k4, hy⟩ := k3'.tail.tail.head
      obtain ⟨p, xs, e1, hp, hd, fin⟩ := k4.change (nv_all nvt nv) (off_get (τ := τ) hr)
      rw [e1] at ev'
      cases ev'
      refine ⟨p, xs, _, j, rfl, rfl, hp, by rw [hd.len]; exact hj, m.nx _ σ _ q ?_⟩
      have k5 := fin (xs.set j y) (ds.set j d) (hd.set hy j)
      rw [off_set] at k5
      exact k5
    rcases z with ⟨d, rfl, z⟩ | ⟨ds, rfl, z⟩
    · exact fin d k1 z
    · exact fin _ k1.freeze z) (.ofMeet m)
/-- x, y = a, b -/
theorem rs_parC {i j : Nat} {x y : Str} {px py pt pt2 : Pos} {kt k2} (hi : Ix S.N i x) (hj : Ix S.N j y) (h : CA S true ρ [a, b] P.ex fun rs ρ1 => ∃ r1 r2, rs = [r1, r2] ∧ P.nx ((ρ1.set i r1).set j r2)) (hnd : S.N.Nodup := by walk_at "kd nd") (hij : i ≠ j := by decide) (hx : S.sc.names.lookup x = some .local := by rfl) (hy : S.sc.names.lookup y = some .local := by rfl)
    (hw : swappedStores [.Tuple [.Name x px, .Name y py] kt pt] (.Tuple [a, b] k2 pt2) (env0 S.sc) = pure (some [x, y]) := by rfl)
    (hs : ∀ X : Cx, swapsWithSole [.Tuple [.Name x px, .Name y py] kt pt] (.Tuple [a, b] k2 pt2) pos.line X.env = pure false := by intro _; rfl) :
    RS S ρ (.Assign [.Tuple [.Name x px, .Name y py] kt pt] (.Tuple [a, b] k2 pt2) pos) P :=
  rs_of (t := tPar i j (wA S [a, b])) (fun X hX => ps_par hX.calm (by rw [hX.N]; exact hnd) (by rw [hX.N]; exact hi.get) (by rw [hX.N]; exact hj.get) hij (by rw [hX.sc]; exact hx) (by rw [hX.sc]; exact hy) (wA_pa hX) ((swap_env hX.sc).trans hw) (hs X)) fun C τ vs σ H D k l nv m => h C τ vs σ H k l (fun _ => nv) _ (fun rs ρ1 ws H' z lw k3 => by
    obtain ⟨r1, r2, rfl, q⟩ := z
    match ws, lw with
    | [v, w], _ =>
      refine ⟨v, w, rfl, m.nx _ _ H' q ?_⟩
      have k3' : Ok S.K C (r2 :: r1 :: (τ ++ ρ1)) (some w :: some v :: (vs ++ σ)) H' := k3
      have k5 : Ok S.K C (r2 :: (τ ++ ρ1.set i r1)) (some w :: (vs ++ σ.set i (some v))) H' := by
        have k6 := Ok.set (i := τ.length + i + 1) k3'.swap
        rw [List.set_cons_succ, List.set_cons_succ, off_set, l, List.set_append_right _ _ (Nat.le_add_right _ _), Nat.add_sub_cancel_left] at k6
        exact k6
      have k7 := Ok.set (i := τ.length + j) k5
      rw [off_set, l, List.set_append_right _ _ (Nat.le_add_right _ _), Nat.add_sub_cancel_left] at k7
      exact k7) (.ofMeet m)
theorem par2 {ρ1 : List Sl} {i j : Nat} {r1 r2 : Sl} {K : List Sl → Prop} (h : K ((ρ1.set i r1).set j r2)) : ∃ s1 s2, [r1, r2] = [s1, s2] ∧ K ((ρ1.set i s1).set j s2) := ⟨r1, r2, rfl, h⟩
/-- target = e, by data -/
theorem rs_asgGC {tg : Expr} (h : CE S true ρ e P.ex fun r ρ1 => ImK r fun d => ∃ ρ2 ix, GD S ρ1 tg d ρ2 ix ∧ P.nx ρ2) (hw : swappedStores [tg] e (env0 S.sc) = pure none := by rfl) (hs : ∀ X : Cx, swapsWithSole [tg] e pos.line X.env = pure false := by intro _; rfl)
    (h1 : ∀ X : Cx, (assignEach [tg] X.env).map (·.2) = [assign tg X.env] := by intro _; rfl) : RS S ρ (.Assign [tg] e pos) P :=
  rs_of (t := tAsg (wE S e) (wG S tg)) (fun X hX => ps_asg (wE_pe hX) (wG_pg hX) (hs X) ((swap_env hX.sc).trans hw) (h1 X)) fun C τ vs σ H D k l nv m => h C τ vs σ H k l (fun _ => nv) _ (fun r ρ1 v H' z k2 => by
    have fin : ∀ d, Ok S.K C (.im d :: (τ ++ ρ1)) (some v :: (vs ++ σ)) H' → (∃ ρ2 ix, GD S ρ1 tg d ρ2 ix ∧ P.nx ρ2) → wG S tg v σ H' D.nx := fun d k2 z => by
      obtain ⟨ρ2, ix, g, q⟩ := z
      exact g C τ vs σ H' v k2 l _ fun σ' H2 _ k3 => m.nx ρ2 σ' H2 q k3
    rcases z with ⟨d, rfl, z⟩ | ⟨ds, rfl, z⟩
    · exact fin d k2 z
    · exact fin _ k2.freeze z) (.ofMeet m)
theorem gd_nm {i : Nat} {x : Str} {d : PyData} (hi : Ix S.N i x) (hnd : S.N.Nodup := by walk_at "kd nd") (hx : Loc S.sc x := by walk_at "kd loc") (hf : S.fa = true ∨ S.sc.names.lookup x = some .local := by first | exact .inl rfl | exact .inr rfl) : GD S ρ (.Name x pos) d (ρ.set i (.im d)) [i] := gd_name i hi.get hnd hx hf
theorem rs_whileC {t : Expr} {body : List Stmt} (Inv : Nat → List Sl → Prop) (m0 : Nat) (h0 : Inv m0 ρ)
    (hs : ∀ mm ρ1, Inv mm ρ1 → CT S true ρ1 t P.ex fun c ρ1 => (c = true → RB S ρ1 body { P with nx := fun ρ2 => ∃ m2, m2 < mm ∧ Inv m2 ρ2, ct := fun ρ2 => ∃ m2, m2 < mm ∧ Inv m2 ρ2, bk := P.nx }) ∧ (c = false → P.nx ρ1)) : RS S ρ (.While t body [] pos) P :=
  rs_of (t := tWhile (wT S t) (wB S body)) (fun X hX => ps_while hX.own (wT_pt hX) (wB_pss hX)) fun C τ vs σ H D k l nv m => by
    refine ⟨fun mm σ' H' => ∃ ρ', Inv mm ρ' ∧ Ok S.K C (τ ++ ρ') (vs ++ σ') H', ⟨m0, ρ, h0, k⟩, ?_⟩
    rintro mm σ' H' ⟨ρ', hI, k2⟩
    refine hs mm ρ' hI C τ vs σ' H' k2 l (fun _ => nv) _ (fun c ρ1 H1 z k3 => ?_) (.ofMeet m)
    cases c with
    | true =>
      refine iteT ⟨fun σ2 H2 => ∃ ρ2, (∃ m2, m2 < mm ∧ Inv m2 ρ2) ∧ Ok S.K C (τ ++ ρ2) (vs ++ σ2) H2, fun σ2 H2 ⟨ρ2, ⟨m2, hm, hI2⟩, k4⟩ => ⟨m2, hm, ρ2, hI2, k4⟩, ?_⟩
      exact z.1 rfl C τ vs σ' H1 _ k3 l nv ⟨fun ρ5 σ5 H5 q k6 => ⟨ρ5, q, k6⟩, m.rt, fun ρ5 σ5 H5 q k6 => m.nx ρ5 σ5 H5 q k6, fun ρ5 σ5 H5 q k6 => ⟨ρ5, q, k6⟩, m.ex⟩
    | false => exact iteF (m.nx _ σ' H1 (z.2 rfl) k3)
theorem ce_isI {d : PyData} {T : String} {bb : Bool} {y : Str} {Q : Sl → List Sl → Prop} {X : Str → Prop} {fl : Bool} {p p2 pos : Pos} (hm : S.mg "isinstance" = none) (hm2 : S.mg y = none) (ha : VE S ρ a (.im d)) (hk : kitB (tyD d) T = some bb) (q : Q (.im (.bool bb)) ρ) (hv2 : bootBuiltins y = some (.type T) := by decide +kernel) (hg : S.sc.names.lookup ("isinstance" : Str) = some .globalImplicit := by rfl) (hg2 : S.sc.names.lookup y = some .globalImplicit := by rfl)
    (hn2 : y ≠ "__name__" := by decide) (hd2 : (y == ("__debug__" : Str)) = false := by decide)
    (he : ∀ X : Cx, starEach [a, .Name y p2] X.env = (false, eval a X.env) :: starEach [.Name y p2] X.env := by intro _; rfl) : CE S fl ρ (.Call (.Name "isinstance" p) [a, .Name y p2] [] pos) X Q := ce_ve (ve_isi T hm hm2 ha rfl hv2 hk hg hg2 hn2 hd2 he) q
/-- a draw -/
theorem ce_draw {j : Nat} {x y : Str} {k : Nat} {Pre : PyData → List PyData → Prop} {R : PyData → List PyData → PyData → Prop} {d0 : PyData} {ds1 : List PyData} {p p2 : Pos} {pt : Addr} {Q : Sl → List Sl → Prop} {X : Str → Prop} (hF : FnT S.toMd k x Pre R) (hN : Ix S.N j y) (hj : ρ[j]? = some (.rs (town pt)))
    (h0 : VE S ρ e (.im d0)) (h1 : CI S false ρ es (fun _ => False) (fun r' ρ' => r' = ds1 ∧ ρ' = ρ)) (hp : Pre d0 ds1) (q : ∀ d, R d0 ds1 d → Q (.im d) ρ) (hk : k ≤ S.k := by walk_at "kd lvl") (hg : S.sc.names.lookup x = some .globalImplicit := by rfl) (hv : Vis S.sc y := by walk_at "kd vis") (nvr : ρ.all noV = true := by rfl)
    (hdb : (x == ("__debug__" : Str)) = false := by decide) (hd : (y == ("__debug__" : Str)) = false := by decide) (hcd : (y == ("__classdict__" : Str)) = false := by decide)
    (he : ∀ X : Cx, starEach (e :: .Name y p2 :: es) X.env = (false, eval e X.env) :: starEach (.Name y p2 :: es) X.env := by intro _; rfl) (hpl : ∀ X : Cx, (backTo pos (starEach (.Name y p2 :: es) X.env)).any (·.1) = false := by intro _; rfl) :
    CE S true ρ (.Call (.Name x p) (e :: .Name y p2 :: es) [] pos) X Q := ce_er (er_draw (P := R d0 ds1) j hF h0 (va_ci h1) hp (fun _ z => z) hk hg hj hN.get hv nvr hdb hd hcd he hpl) q
end
/-! what a test told -/
section
variable {A B : Prop} {i j : Int}
theorem if_b {c : Bool} (h1 : c = true → A) (h2 : c = false → B) : (c = true → A) ∧ (c = false → B) := ⟨h1, h2⟩
theorem if_lt (h1 : i < j → A) (h2 : ¬ i < j → B) : (cmpI .Lt i j = true → A) ∧ (cmpI .Lt i j = false → B) := ⟨fun h => h1 (of_decide_eq_true h), fun h => h2 (of_decide_eq_false h)⟩
theorem if_le (h1 : i ≤ j → A) (h2 : ¬ i ≤ j → B) : (cmpI .LtE i j = true → A) ∧ (cmpI .LtE i j = false → B) := ⟨fun h => h1 (of_decide_eq_true h), fun h => h2 (of_decide_eq_false h)⟩
theorem if_gt (h1 : j < i → A) (h2 : ¬ j < i → B) : (cmpI .Gt i j = true → A) ∧ (cmpI .Gt i j = false → B) := ⟨fun h => h1 (of_decide_eq_true h), fun h => h2 (of_decide_eq_false h)⟩
theorem if_ge (h1 : j ≤ i → A) (h2 : ¬ j ≤ i → B) : (cmpI .GtE i j = true → A) ∧ (cmpI .GtE i j = false → B) := ⟨fun h => h1 (of_decide_eq_true h), fun h => h2 (of_decide_eq_false h)⟩
theorem if_eq (h1 : i = j → A) (h2 : ¬ i = j → B) : (cmpI .Eq i j = true → A) ∧ (cmpI .Eq i j = false → B) := ⟨fun h => h1 (of_decide_eq_true h), fun h => h2 (of_decide_eq_false h)⟩
theorem if_ne (h1 : ¬ i = j → A) (h2 : i = j → B) : (cmpI .NotEq i j = true → A) ∧ (cmpI .NotEq i j = false → B) := by
  refine ⟨fun h => h1 ?_, fun h => h2 ?_⟩
  · have z : (!decide (i = j)) = true := h
    simpa using z
  · have z : (!decide (i = j)) = false := h
    simpa using z
theorem if_dec {p : Prop} [Decidable p] (h1 : p → A) (h2 : ¬ p → B) : (decide p = true → A) ∧ (decide p = false → B) := ⟨fun h => h1 (of_decide_eq_true h), fun h => h2 (of_decide_eq_false h)⟩
theorem if_not {c : Bool} (h : (c = true → B) ∧ (c = false → A)) : ((!c) = true → A) ∧ ((!c) = false → B) := ⟨fun z => h.2 (by simpa using z), fun z => h.1 (by simpa using z)⟩
theorem if_and {c d : Bool} (h : (c = true → (d = true → A) ∧ (d = false → B)) ∧ (c = false → B)) : ((c && d) = true → A) ∧ ((c && d) = false → B) := by
  cases c <;> cases d <;> simp_all
theorem if_swap {c : Bool} (h : (c = true → A) ∧ (c = false → B)) : (c = false → B) ∧ (c = true → A) := ⟨h.2, h.1⟩
theorem ifb_true (h : A) : (true = true → A) ∧ (true = false → B) := ⟨fun _ => h, fun z => (nomatch z)⟩
theorem ifb_false (h : B) : (false = true → A) ∧ (false = false → B) := ⟨fun z => (nomatch z), fun _ => h⟩
end
end Kd

set_option Elab.async false
set_option linter.all false
set_option maxRecDepth 100000
/-! KdV: a statement and what comes behind it. -/
namespace Kd
open PySem L2 PySem.Spec PyProof.Rows
open Evl (Ex ex_l ex_t ex_rd fresh_back)
section
variable {S : Sh} {ρ : List Sl} {e a b o : Expr} {es : List Expr} {rest : List Stmt} {pos p2 p : Pos} {P : Pst}
theorem rc_asg {i : Nat} {x : Str} (hN : Ix S.N i x) (h : CE S true ρ e P.ex fun r ρ1 => RB S (ρ1.set i r) rest P) (hnd : S.N.Nodup := by walk_at "kd nd") (hx : Loc S.sc x := by walk_at "kd loc") (hf : S.fa = true ∨ S.sc.names.lookup x = some .local := by first | exact .inl rfl | exact .inr rfl)
    (hs : ∀ X : Cx, X.env.scope = S.sc → swapsWith e (some (.Name x p)) pos.line X.env = pure false := by intro _ _; rfl) : RB S ρ (.Assign [.Name x p] e pos :: rest) P := rb_cons (rs_asgC hN h hnd hx hf hs)
theorem rc_expr (h : CE S true ρ e P.ex fun _ ρ1 => RB S ρ1 rest P) (hs : ∀ X : Cx, swapsWith e none pos.line X.env = pure false := by intro _; rfl) : RB S ρ (.Expr e pos :: rest) P := rb_cons (rs_exprC h hs)
theorem rc_ret (h : CE S true ρ e P.ex fun r ρ1 => ImK r fun d => P.rt (.im d) ρ1) : RB S ρ (.Return (some e) pos :: rest) P := rb_cons (rs_retI h)
theorem rc_retOw {i : Nat} {x : Str} {ds : List PyData} (hN : Ix S.N i x) (hr : ρ[i]? = some (.ow ds)) (hv : Vis S.sc x) (q : P.rt (.im (.list ds)) (ρ.set i (.im (.list ds)))) (hd : (x == ("__debug__" : Str)) = false := by decide) (hcd : (x == ("__classdict__" : Str)) = false := by decide) : RB S ρ (.Return (some (.Name x p)) pos :: rest) P := rb_cons (rs_retOw hN hr hv q hd hcd)
theorem rc_if {t : Expr} {a b : List Stmt} (h : CT S true ρ t P.ex fun c ρ1 => (c = true → RB S ρ1 a { P with nx := fun ρ' => RB S ρ' rest P }) ∧ (c = false → RB S ρ1 b { P with nx := fun ρ' => RB S ρ' rest P })) : RB S ρ (.If t a b pos :: rest) P := rb_cons (rs_ifC h)
theorem rc_add {i : Nat} {x : Str} {u w : Int} (hN : Ix S.N i x) (hr : ρ[i]? = some (.im (.int u))) (h : VE S ρ e (.im (.int w))) (q : RB S (ρ.set i (.im (.int (u + w)))) rest P) (hnd : S.N.Nodup := by walk_at "kd nd") (hx : Loc S.sc x := by walk_at "kd loc")
    (hf : S.fa = true ∨ S.sc.names.lookup x = some .local := by first | exact .inl rfl | exact .inr rfl) : RB S ρ (.AugAssign (.Name x p) .Add e pos :: rest) P := rb_cons (rs_augAdd hN hr h q hnd hx hf)
theorem rc_sub {i : Nat} {x : Str} {u w : Int} (hN : Ix S.N i x) (hr : ρ[i]? = some (.im (.int u))) (h : VE S ρ e (.im (.int w))) (q : RB S (ρ.set i (.im (.int (u - w)))) rest P) (hnd : S.N.Nodup := by walk_at "kd nd") (hx : Loc S.sc x := by walk_at "kd loc")
    (hf : S.fa = true ∨ S.sc.names.lookup x = some .local := by first | exact .inl rfl | exact .inr rfl) : RB S ρ (.AugAssign (.Name x p) .Sub e pos :: rest) P := rb_cons (rs_augSub hN hr h q hnd hx hf)
theorem rc_app {i : Nat} {x : Str} {ds0 : List PyData} {p1 p2 p3 : Pos} (hN : Ix S.N i x) (hr0 : ρ[i]? = some (.ow ds0)) (hv : Vis S.sc x) (h : CE S true ρ e P.ex fun r ρ1 => ImK r fun d => AppK i ρ1 d fun ρ2 => RB S ρ2 rest P)
    (hd : (x == ("__debug__" : Str)) = false := by decide) (hcd : (x == ("__classdict__" : Str)) = false := by decide)
    (hfew : ∀ X : Cx, ((backTo p3 (starEach [e] X.env)).all (fun x => !x.1) && (backToKw p3 (keywordEach [] X.env)).all (fun x => x.1.isSome) && decide ([e].length + ([] : List Keyword).length + (if ([] : List Keyword).isEmpty then 0 else 1) < 30)) = true := by intro _; rfl)
    (hline : (p2.endLine == p3.line) = true := by rfl) (hse : ∀ X : Cx, starEach [e] X.env = (false, eval e X.env) :: starEach [] X.env := by intro _; rfl)
    (hs : ∀ X : Cx, swapsWith (.Call (.Attribute (.Name x p1) "append" p2) [e] [] p3) none pos.line X.env = pure false := by intro _; rfl) : RB S ρ (.Expr (.Call (.Attribute (.Name x p1) "append" p2) [e] [] p3) pos :: rest) P := rb_cons (rs_appC hN hr0 hv h hd hcd hfew hline hse hs)
theorem rc_ext {i : Nat} {x : Str} {ds0 : List PyData} {p1 p2 p3 : Pos} (hN : Ix S.N i x) (hr0 : ρ[i]? = some (.ow ds0)) (hv : Vis S.sc x) (h : CE S true ρ e P.ex fun r ρ1 => ExtK i ρ1 r fun ρ2 => RB S ρ2 rest P)
    (hd : (x == ("__debug__" : Str)) = false := by decide) (hcd : (x == ("__classdict__" : Str)) = false := by decide)
    (hfew : ∀ X : Cx, ((backTo p3 (starEach [e] X.env)).all (fun x => !x.1) && (backToKw p3 (keywordEach [] X.env)).all (fun x => x.1.isSome) && decide ([e].length + ([] : List Keyword).length + (if ([] : List Keyword).isEmpty then 0 else 1) < 30)) = true := by intro _; rfl)
    (hline : (p2.endLine == p3.line) = true := by rfl) (hse : ∀ X : Cx, starEach [e] X.env = (false, eval e X.env) :: starEach [] X.env := by intro _; rfl)
    (hs : ∀ X : Cx, swapsWith (.Call (.Attribute (.Name x p1) "extend" p2) [e] [] p3) none pos.line X.env = pure false := by intro _; rfl) : RB S ρ (.Expr (.Call (.Attribute (.Name x p1) "extend" p2) [e] [] p3) pos :: rest) P := rb_cons (rs_extC hN hr0 hv h hd hcd hfew hline hse hs)
theorem rc_setV {i : Nat} {x : Str} {p1 p2 : Pos} {ix : Expr} (hN : Ix S.N i x) (hv : Vis S.sc x) (h : CE S true ρ e P.ex fun r ρ1 => ImK r fun d => ∃ s, VE S ρ1 ix s ∧ SetK i ρ1 s d fun ρ3 => RB S ρ3 rest P)
    (hd : (x == ("__debug__" : Str)) = false := by decide) (hcd : (x == ("__classdict__" : Str)) = false := by decide)
    (hs : ∀ X : Cx, swapsWithSole [.Subscript (.Name x p1) ix p2] e pos.line X.env = pure false := by intro _; rfl) (hw : ∀ X : Cx, swappedStores [.Subscript (.Name x p1) ix p2] e X.env = pure none := by intro _; rfl)
    (h1 : ∀ X : Cx, (assignEach [.Subscript (.Name x p1) ix p2] X.env).map (·.2) = [assign (.Subscript (.Name x p1) ix p2) X.env] := by intro _; rfl)
    (ha : ∀ (X : Cx) v, assign (.Subscript (.Name x p1) ix p2) X.env v = (do
      let ov ← holding [v] (eval (.Name x p1) X.env)
      let iv ← holding [v, ov] (eval ix X.env)
      standAt p2
      holding [v, ov, iv] (setItem ov iv v)
      release [v, ov, iv] []) := by intro _ _; rfl) : RB S ρ (.Assign [.Subscript (.Name x p1) ix p2] e pos :: rest) P := rb_cons (rs_setC hN hv h hd hcd hs hw h1 ha)
theorem rc_par {i j : Nat} {x y : Str} {px py pt pt2 : Pos} {kt k2} (hi : Ix S.N i x) (hj : Ix S.N j y) (h : CA S true ρ [a, b] P.ex fun rs ρ1 => ∃ r1 r2, rs = [r1, r2] ∧ RB S ((ρ1.set i r1).set j r2) rest P) (hnd : S.N.Nodup := by walk_at "kd nd") (hij : i ≠ j := by decide) (hx : S.sc.names.lookup x = some .local := by rfl) (hy : S.sc.names.lookup y = some .local := by rfl)
    (hw : swappedStores [.Tuple [.Name x px, .Name y py] kt pt] (.Tuple [a, b] k2 pt2) (env0 S.sc) = pure (some [x, y]) := by rfl)
    (hs : ∀ X : Cx, swapsWithSole [.Tuple [.Name x px, .Name y py] kt pt] (.Tuple [a, b] k2 pt2) pos.line X.env = pure false := by intro _; rfl) :
    RB S ρ (.Assign [.Tuple [.Name x px, .Name y py] kt pt] (.Tuple [a, b] k2 pt2) pos :: rest) P := rb_cons (rs_parC hi hj h hnd hij hx hy hw hs)
theorem rpar2 {ρ1 : List Sl} {i j : Nat} {r1 r2 : Sl} (h : RB S ((ρ1.set i r1).set j r2) rest P) : ∃ s1 s2, [r1, r2] = [s1, s2] ∧ RB S ((ρ1.set i s1).set j s2) rest P := ⟨r1, r2, rfl, h⟩
theorem rc_asgG {tg : Expr} (h : CE S true ρ e P.ex fun r ρ1 => ImK r fun d => ∃ ρ2 ix, GD S ρ1 tg d ρ2 ix ∧ RB S ρ2 rest P) (hw : swappedStores [tg] e (env0 S.sc) = pure none := by rfl) (hs : ∀ X : Cx, swapsWithSole [tg] e pos.line X.env = pure false := by intro _; rfl)
    (h1 : ∀ X : Cx, (assignEach [tg] X.env).map (·.2) = [assign tg X.env] := by intro _; rfl) : RB S ρ (.Assign [tg] e pos :: rest) P := rb_cons (rs_asgGC h hw hs h1)
theorem rc_raise {x : Str} {pos' : Pos} (h : XcIn S.toMd x) (q : P.ex x) (hg : S.sc.names.lookup x = some .globalImplicit := by rfl) (hdb : (x == ("__debug__" : Str)) = false := by decide) : RB S ρ (.Raise (some (.Call (.Name x p) [] [] pos')) none pos :: rest) P := rb_cons (rs_raise h q hg hdb)
theorem rc_pass (h : RB S ρ rest P) : RB S ρ (.Pass pos :: rest) P := rb_cons (rs_pass h)
theorem rc_cont (h : P.ct ρ) : RB S ρ (.Continue pos :: rest) P := rb_cons (rs_continue h)
theorem rc_break (h : P.bk ρ) : RB S ρ (.Break pos :: rest) P := rb_cons (rs_break h)
/-- a for over data -/
theorem rc_for {α : Type} {tg it : Expr} {body : List Stmt} {xs : List α} {inj : α → PyData} (Inv : List α → List Sl → Prop) (hw : IX S ρ tg it (xs.map inj)) (h0 : Inv [] ρ)
    (hs : ∀ pre x post ρ1, xs = pre ++ x :: post → Inv pre ρ1 → ∃ ρ2 ix, GD S ρ1 tg (inj x) ρ2 ix ∧ RB S ρ2 body { P with nx := Inv (pre ++ [x]), ct := Inv (pre ++ [x]), bk := fun ρ' => RB S ρ' rest P }) (hd : ∀ ρ1, Inv xs ρ1 → RB S ρ1 rest P)
    (hfs : ∀ (X : Cx) x, foldedSetIterable it X.env x = pure x := by intro _ _; rfl) : RB S ρ (.For tg it body [] pos :: rest) P := rb_cons (rs_forX hw Inv h0 hs hd hfs)
theorem rc_while {t : Expr} {body : List Stmt} (Inv : Nat → List Sl → Prop) (m0 : Nat) (h0 : Inv m0 ρ)
    (hs : ∀ mm ρ1, Inv mm ρ1 → CT S true ρ1 t P.ex fun c ρ1 => (c = true → RB S ρ1 body { P with nx := fun ρ2 => ∃ m2, m2 < mm ∧ Inv m2 ρ2, ct := fun ρ2 => ∃ m2, m2 < mm ∧ Inv m2 ρ2, bk := fun ρ' => RB S ρ' rest P }) ∧ (c = false → RB S ρ1 rest P)) : RB S ρ (.While t body [] pos :: rest) P := rb_cons (rs_whileC Inv m0 h0 hs)
/-- a def by its body -/
theorem RB.body {st : List Stmt} {st' : List Stmt} {ρ' : List Sl} (h : RB S ρ' st' P) (e1 : st' = st) (e2 : ρ' = ρ) : RB S ρ st P := by subst e1 e2; exact h
end
end Kd

set_option Elab.async false
set_option linter.all false
set_option maxRecDepth 100000
/-! KdW: comprehensions and walks, told from left to right. -/
namespace Kd
open PySem L2 PySem.Spec PyProof.Rows
open Evl (Ex ex_l ex_t ex_rd fresh_back)
def CB (S : Sh) (ρ : List Sl) (own : List (Str × Nat)) (tg : Expr) (d : PyData) (K : List Sl → Prop) : Prop := ∃ ρ2 ix, GD S (wipeS ρ (own.map (·.2))) tg d ρ2 ix ∧ (∀ j ∈ ix, j ∈ own.map (·.2)) ∧ wipeS ρ2 (own.map (·.2)) = wipeS ρ (own.map (·.2)) ∧ K ρ2
section
variable {S : Sh} {ρ ρ2 : List Sl} {tg e e2 e3 it elt : Expr} {ifs : List Expr} {rest : List Stmt} {pos p : Pos} {P : Pst} {α β : Type} {Q : Sl → List Sl → Prop} {X : Str → Prop} {fl : Bool}
theorem cb {own : List (Str × Nat)} {d : PyData} {ix : List Nat} {K : List Sl → Prop} (hg : GD S (wipeS ρ (own.map (·.2))) tg d ρ2 ix) (hi : ∀ j ∈ ix, j ∈ own.map (·.2)) (hw : wipeS ρ2 (own.map (·.2)) = wipeS ρ (own.map (·.2))) (k : K ρ2) : CB S ρ own tg d K := ⟨ρ2, ix, hg, hi, hw, k⟩
theorem ve_ceI {d : PyData} (h : CE S false ρ e (fun _ => False) fun r ρ' => ImK r fun d' => d' = d ∧ ρ' = ρ) : VE S ρ e (.im d) := fun C τ vs σ H k l Q q => h C τ vs σ H k l (fun z => nomatch z) Q (fun r' ρ' v H' z k2 => by
  rcases z with ⟨d', rfl, rfl, rfl⟩ | ⟨ds, rfl, rfl, rfl⟩
  · exact q v H' k2
  · exact q v H' k2.freeze) (fun _ _ _ _ z => z.elim)
theorem vt_ctI {c : Bool} (h : CT S false ρ e (fun _ => False) fun r ρ' => r = c ∧ ρ' = ρ) : VT S ρ e c := vt_ct h
theorem ve_lcC (own : List (Str × Nat)) {sc : Scope} {xs : List α} {inj : α → PyData} (g : α → PyData) (hw : IX S ρ tg it (xs.map inj)) (hb : ∀ x ∈ xs, CB (S.blk sc) ρ own tg (inj x) fun ρ2 => CE (S.blk sc) false ρ2 elt (fun _ => False) fun r ρ' => ImK r fun d' => d' = g x ∧ ρ' = ρ2)
    (hz : xs.length ≤ 100000) (ok : BlkOk S.N S.sc sc own := by walk_at "kd blk") (hnd : S.N.Nodup := by walk_at "kd nd") (hno : noAt ρ own = true := by rfl)
    (hfs : ∀ (X : Cx) x, foldedSetIterable it X.env x = pure x := by intro _ _; rfl) : VE S ρ (.ListComp elt [⟨tg, it, [], 0⟩] sc pos) (.ow (xs.map g)) :=
  ve_compN own hw g (fun x hx => by
    obtain ⟨ρ2, ix, h1, h2, h3, h4⟩ := hb x hx
    exact ⟨ρ2, ix, h2, h3, h1, ve_ceI h4⟩) hz ok hnd hno hfs
theorem ce_lc (own : List (Str × Nat)) {sc : Scope} {xs : List α} {inj : α → PyData} (g : α → PyData) (hw : IX S ρ tg it (xs.map inj)) (hb : ∀ x ∈ xs, CB (S.blk sc) ρ own tg (inj x) fun ρ2 => CE (S.blk sc) false ρ2 elt (fun _ => False) fun r ρ' => ImK r fun d' => d' = g x ∧ ρ' = ρ2)
    (hz : xs.length ≤ 100000) (q : Q (.ow (xs.map g)) ρ) (ok : BlkOk S.N S.sc sc own := by walk_at "kd blk") (hnd : S.N.Nodup := by walk_at "kd nd") (hno : noAt ρ own = true := by rfl)
    (hfs : ∀ (X : Cx) x, foldedSetIterable it X.env x = pure x := by intro _ _; rfl) : CE S fl ρ (.ListComp elt [⟨tg, it, [], 0⟩] sc pos) X Q := ce_ve (ve_lcC own g hw hb hz ok hnd hno hfs) q
theorem ve_lcfC (own : List (Str × Nat)) {sc : Scope} {xs : List α} {inj : α → PyData} {c : Expr} (f : α → Bool) (g : α → PyData) (hw : IX S ρ tg it (xs.map inj)) (hb : ∀ x ∈ xs, CB (S.blk sc) ρ own tg (inj x) fun ρ2 => (CT (S.blk sc) false ρ2 c (fun _ => False) fun r ρ' => r = f x ∧ ρ' = ρ2) ∧ (f x = true → CE (S.blk sc) false ρ2 elt (fun _ => False) fun r ρ' => ImK r fun d' => d' = g x ∧ ρ' = ρ2))
    (hz : xs.length ≤ 100000) (ok : BlkOk S.N S.sc sc own := by walk_at "kd blk") (hnd : S.N.Nodup := by walk_at "kd nd") (hno : noAt ρ own = true := by rfl)
    (hfs : ∀ (X : Cx) x, foldedSetIterable it X.env x = pure x := by intro _ _; rfl) : VE S ρ (.ListComp elt [⟨tg, it, [c], 0⟩] sc pos) (.ow ((xs.filter f).map g)) :=
  ve_comp own hw f g (fun x hx => by
    obtain ⟨ρ2, ix, h1, h2, h3, h4, h5⟩ := hb x hx
    exact ⟨ρ2, ix, h2, h3, h1, vts_one (vt_ct h4), fun z => ve_ceI (h5 z)⟩) hz ok hnd hno hfs
theorem ce_lcf (own : List (Str × Nat)) {sc : Scope} {xs : List α} {inj : α → PyData} {c : Expr} (f : α → Bool) (g : α → PyData) (hw : IX S ρ tg it (xs.map inj)) (hb : ∀ x ∈ xs, CB (S.blk sc) ρ own tg (inj x) fun ρ2 => (CT (S.blk sc) false ρ2 c (fun _ => False) fun r ρ' => r = f x ∧ ρ' = ρ2) ∧ (f x = true → CE (S.blk sc) false ρ2 elt (fun _ => False) fun r ρ' => ImK r fun d' => d' = g x ∧ ρ' = ρ2))
    (hz : xs.length ≤ 100000) (q : Q (.ow ((xs.filter f).map g)) ρ) (ok : BlkOk S.N S.sc sc own := by walk_at "kd blk") (hnd : S.N.Nodup := by walk_at "kd nd") (hno : noAt ρ own = true := by rfl)
    (hfs : ∀ (X : Cx) x, foldedSetIterable it X.env x = pure x := by intro _ _; rfl) : CE S fl ρ (.ListComp elt [⟨tg, it, [c], 0⟩] sc pos) X Q := ce_ve (ve_lcfC own f g hw hb hz ok hnd hno hfs) q
/-- x = [..] -/
theorem rc_asgLc {i : Nat} {x : Str} {spos : Pos} (hN : Ix S.N i x) (own : List (Str × Nat)) {sc : Scope} {xs : List α} {inj : α → PyData} (g : α → PyData) (hw : IX S ρ tg it (xs.map inj)) (hb : ∀ x ∈ xs, CB (S.blk sc) ρ own tg (inj x) fun ρ2 => CE (S.blk sc) false ρ2 elt (fun _ => False) fun r ρ' => ImK r fun d' => d' = g x ∧ ρ' = ρ2)
    (hz : xs.length ≤ 100000) (q : RB S (ρ.set i (.ow (xs.map g))) rest P) (ok : BlkOk S.N S.sc sc own := by walk_at "kd blk") (hnd : S.N.Nodup := by walk_at "kd nd") (hno : noAt ρ own = true := by rfl)
    (hx : S.sc.names.lookup x = some .local := by rfl) (hk : S.sc.kind = .function := by rfl) (hl : (p.line == pos.line) = true := by rfl) (ha : (sc.names.any fun (n, k) => n == x && (k == .local || k == .cell)) = false := by decide +kernel)
    (hfs : ∀ (X : Cx) x, foldedSetIterable it X.env x = pure x := by intro _ _; rfl) : RB S ρ (.Assign [.Name x p] (.ListComp elt [⟨tg, it, [], 0⟩] sc pos) spos :: rest) P :=
  rb_cons (rs_asgCompN i own hw g (fun x hx => by
    obtain ⟨ρ2, ix, h1, h2, h3, h4⟩ := hb x hx
    exact ⟨ρ2, ix, h2, h3, h1, ve_ceI h4⟩) q hz ok hnd hno hN.get hx hk hl ha hfs)
theorem rc_asgLcf {i : Nat} {x : Str} {spos : Pos} {c : Expr} (hN : Ix S.N i x) (own : List (Str × Nat)) {sc : Scope} {xs : List α} {inj : α → PyData} (f : α → Bool) (g : α → PyData) (hw : IX S ρ tg it (xs.map inj)) (hb : ∀ x ∈ xs, CB (S.blk sc) ρ own tg (inj x) fun ρ2 => (CT (S.blk sc) false ρ2 c (fun _ => False) fun r ρ' => r = f x ∧ ρ' = ρ2) ∧ (f x = true → CE (S.blk sc) false ρ2 elt (fun _ => False) fun r ρ' => ImK r fun d' => d' = g x ∧ ρ' = ρ2))
    (hz : xs.length ≤ 100000) (q : RB S (ρ.set i (.ow ((xs.filter f).map g))) rest P) (ok : BlkOk S.N S.sc sc own := by walk_at "kd blk") (hnd : S.N.Nodup := by walk_at "kd nd") (hno : noAt ρ own = true := by rfl)
    (hx : S.sc.names.lookup x = some .local := by rfl) (hk : S.sc.kind = .function := by rfl) (hl : (p.line == pos.line) = true := by rfl) (ha : (sc.names.any fun (n, k) => n == x && (k == .local || k == .cell)) = false := by decide +kernel)
    (hfs : ∀ (X : Cx) x, foldedSetIterable it X.env x = pure x := by intro _ _; rfl) : RB S ρ (.Assign [.Name x p] (.ListComp elt [⟨tg, it, [c], 0⟩] sc pos) spos :: rest) P :=
  rb_cons (rs_asgComp i own hw f g (fun x hx => by
    obtain ⟨ρ2, ix, h1, h2, h3, h4, h5⟩ := hb x hx
    exact ⟨ρ2, ix, h2, h3, h1, vts_one (vt_ct h4), fun z => ve_ceI (h5 z)⟩) q hz ok hnd hno hN.get hx hk hl ha hfs)
theorem ix_tupD {ds : List PyData} (h : VE S ρ e (.im (.tuple ds))) : IX S ρ tg e (ds.map id) := by rw [List.map_id]; exact ix_tup h
theorem ix_listD {ds : List PyData} (h : VE S ρ e (.im (.list ds))) : IX S ρ tg e (ds.map id) := by rw [List.map_id]; exact ix_list h
theorem ix_eq {ds ds' : List PyData} (h : IX S ρ tg it ds) (e : ds = ds') : IX S ρ tg it ds' := e ▸ h
end
/-! ranges with a step above 0 -/
theorem rgc_up {a b c : Int} {n : Nat} (hc : 0 < c) (hc2 : c ≤ 1000000) (ha : -1000000 ≤ a) (ha2 : a ≤ 1000000) (hb : -1000000 ≤ b) (hb2 : b ≤ 1000000) (hn : (n : Int) = if b > a then (b - a - 1) / c + 1 else 0) : RgC a b c n := by
  have e : Builtin.Range.rangeSize a b c = (n : Int) := by
    unfold Builtin.Range.rangeSize
    rw [if_pos hc, hn]
  refine ⟨by omega, by omega, ?_, e⟩
  have f : ∀ z : Int, -1000000000000000 ≤ z → z ≤ 1000000000000000 → Builtin.Range.rangeFitsLong z = true := fun z h1 h2 => by
    unfold Builtin.Range.rangeFitsLong
    rw [Bool.and_eq_true, decide_eq_true_iff, decide_eq_true_iff]
    omega
  have hn0 : (n : Int) ≤ 3000000 := by
    rw [hn]
    split
    · have : (b - a - 1) / c ≤ (b - a - 1) := Int.ediv_le_self _ (by omega)
      omega
    · omega
  have hnc : (n : Int) * c ≤ 3000000 * 1000000 := Int.mul_le_mul hn0 hc2 (by omega) (by omega)
  have hnc0 : 0 ≤ (n : Int) * c := Int.mul_nonneg (by omega) (by omega)
  unfold Builtin.Range.small
  rw [e]
  simp only [f a (by omega) (by omega), f b (by omega) (by omega), f c (by omega) (by omega), f (n : Int) (by omega) (by omega), Bool.true_and, Bool.and_true]
  rw [if_pos hc, f (b + (c - 1)) (by omega) (by omega), Bool.or_true]
end Kd

set_option Elab.async false
set_option linter.all false
set_option maxRecDepth 100000
/-! KdX: what is forgotten; loops by a told state. -/
namespace Kd
open PySem L2 PySem.Spec PyProof.Rows
open Evl (Ex ex_l ex_t ex_rd fresh_back)
inductive Fg : List Sl → List Sl → Prop
  | nil : Fg [] []
  | drop {s : Sl} {l l' : List Sl} : Fg l l' → Fg (s :: l) (.no :: l')
  | keep {s s' : Sl} {l l' : List Sl} : s = s' → Fg l l' → Fg (s :: l) (s' :: l')
theorem Fg.refl : ∀ l : List Sl, Fg l l
  | [] => .nil
  | _ :: l => .keep rfl (Fg.refl l)
theorem Sls.fg {K : PySem.W.Frag} {C : Cz} {B G H : Hp} {ρ ρ' : List Sl} (f : Fg ρ ρ') : ∀ {σ : List (Option V)} {fp : List Addr}, Sls K C B G H ρ σ fp → ∃ fp', Sls K C B G H ρ' σ fp' ∧ (∀ p ∈ fp', p ∈ fp) ∧ (fp.Nodup → fp'.Nodup) := by
  induction f with
  | nil =>
    intro σ fp h
    cases h
    exact ⟨[], .nil, fun _ z => z, fun z => z⟩
  | drop _ ih =>
    intro σ fp h
    cases h with
    | @cons _ o f g _ σ h1 h2 =>
      obtain ⟨g', k1, k2, k3⟩ := ih h2
      exact ⟨[] ++ g', .cons rfl k1, fun p z => List.mem_append_right _ (k2 p z), fun z => k3 (List.nodup_append.mp z).2.1⟩
  | keep e _ ih =>
    intro σ fp h
    subst e
    cases h with
    | @cons _ o f g _ σ h1 h2 =>
      obtain ⟨g', k1, k2, k3⟩ := ih h2
      refine ⟨f ++ g', .cons h1 k1, fun p z => ?_, fun z => ?_⟩
      · rcases List.mem_append.mp z with y | y
        · exact List.mem_append_left _ y
        · exact List.mem_append_right _ (k2 p y)
      · obtain ⟨n1, n2, n3⟩ := List.nodup_append.mp z
        exact List.nodup_append.mpr ⟨n1, k3 n2, fun a ha b hb => n3 a ha b (k2 b hb)⟩
theorem Ok.fg {K : PySem.W.Frag} {C : Cz} {H : Hp} {ρ ρ' : List Sl} {σ : List (Option V)} (h : Ok K C ρ σ H) (f : Fg ρ ρ') : Ok K C ρ' σ H := by
  obtain ⟨B, G, fp, k⟩ := h
  obtain ⟨fp', k1, k2, k3⟩ := Sls.fg f k.sls
  exact ⟨B, G, fp', k.b, k.g, k.h, k.e, k.n, k.dom, k3 k.nd, fun p hp => k.own p (k2 p hp), k1⟩
theorem Fg.under (τ : List Sl) {ρ ρ' : List Sl} (f : Fg ρ ρ') : Fg (τ ++ ρ) (τ ++ ρ') := by
  induction τ with
  | nil => exact f
  | cons t τ ih => exact .keep rfl ih
section
variable {S : Sh} {ρ ρ' : List Sl} {tg it : Expr} {body rest : List Stmt} {pos : Pos} {P : Pst} {α : Type}
theorem rb_fg (f : Fg ρ ρ') (h : RB S ρ' rest P) : RB S ρ rest P := fun C τ vs σ H D k l nv m => h C τ vs σ H D (k.fg (f.under τ)) l nv m
theorem rc_forE {xs : List α} {inj : α → PyData} (st : List α → List Sl) (hw : IX S ρ tg it (xs.map inj)) (h0 : Fg ρ (st []))
    (hs : ∀ pre x post, xs = pre ++ x :: post → ∃ ρ2 ix, GD S (st pre) tg (inj x) ρ2 ix ∧ RB S ρ2 body { P with nx := fun ρ' => Fg ρ' (st (pre ++ [x])), ct := fun ρ' => Fg ρ' (st (pre ++ [x])), bk := fun ρ' => RB S ρ' rest P }) (hd : RB S (st xs) rest P)
    (hfs : ∀ (X : Cx) x, foldedSetIterable it X.env x = pure x := by intro _ _; rfl) : RB S ρ (.For tg it body [] pos :: rest) P := by
  refine rc_for (fun pre ρ1 => Fg ρ1 (st pre)) hw h0 (fun pre x post ρ1 e hI => ?_) (fun ρ1 hI => rb_fg hI hd) hfs
  obtain ⟨ρ2, ix, hg, hb⟩ := hs pre x post e
  -- the slots behind the target, from the told state
  refine ⟨ρ2, ix, fun C τ vs σ H v k l Q q => ?_, hb⟩
  exact hg C τ vs σ H v (k.fg (.keep rfl (hI.under τ))) l Q q
/-- a loop whose state is open: some told one -/
theorem rc_forI {xs : List α} {inj : α → PyData} {β : Type} (I : List α → β → Prop) (st : List α → β → List Sl) (hw : IX S ρ tg it (xs.map inj)) (b0 : β) (i0 : I [] b0) (h0 : Fg ρ (st [] b0))
    (hs : ∀ pre x post b, xs = pre ++ x :: post → I pre b → ∃ ρ2 ix, GD S (st pre b) tg (inj x) ρ2 ix ∧ RB S ρ2 body { P with nx := fun ρ' => ∃ b', I (pre ++ [x]) b' ∧ Fg ρ' (st (pre ++ [x]) b'), ct := fun ρ' => ∃ b', I (pre ++ [x]) b' ∧ Fg ρ' (st (pre ++ [x]) b'), bk := fun ρ' => RB S ρ' rest P }) (hd : ∀ b, I xs b → RB S (st xs b) rest P)
    (hfs : ∀ (X : Cx) x, foldedSetIterable it X.env x = pure x := by intro _ _; rfl) : RB S ρ (.For tg it body [] pos :: rest) P := by
  refine rc_for (fun pre ρ1 => ∃ b, I pre b ∧ Fg ρ1 (st pre b)) hw ⟨b0, i0, h0⟩ (fun pre x post ρ1 e hI => ?_) (fun ρ1 hI => ?_) hfs
  · obtain ⟨b, i1, hI⟩ := hI
    obtain ⟨ρ2, ix, hg, hb⟩ := hs pre x post b e i1
    refine ⟨ρ2, ix, fun C τ vs σ H v k l Q q => ?_, hb⟩
    exact hg C τ vs σ H v (k.fg (.keep rfl (hI.under τ))) l Q q
  · obtain ⟨b, i1, hI⟩ := hI
    exact rb_fg hI (hd b i1)
theorem rc_whileI {t : Expr} {β : Type} (I : β → Prop) (mu : β → Nat) (st : β → List Sl) (b0 : β) (i0 : I b0) (h0 : Fg ρ (st b0))
    (hs : ∀ b, I b → CT S true (st b) t P.ex fun c ρ1 => (c = true → RB S ρ1 body { P with nx := fun ρ2 => ∃ b', mu b' < mu b ∧ I b' ∧ Fg ρ2 (st b'), ct := fun ρ2 => ∃ b', mu b' < mu b ∧ I b' ∧ Fg ρ2 (st b'), bk := fun ρ' => RB S ρ' rest P }) ∧ (c = false → RB S ρ1 rest P)) : RB S ρ (.While t body [] pos :: rest) P := by
  refine rb_fg h0 (rc_while (fun m ρ1 => ∃ b, mu b = m ∧ I b ∧ Fg ρ1 (st b)) (mu b0) ⟨b0, rfl, i0, .refl _⟩ fun m ρ1 hI => ?_)
  obtain ⟨b, rfl, i1, hI⟩ := hI
  have h1 := hs b i1
  intro C τ vs σ H k l nv QQ qq xx
  refine h1 C τ vs σ H (k.fg (hI.under τ)) l nv QQ (fun c ρ2 H' z k2 => qq c ρ2 H' ⟨fun hc => ?_, z.2⟩ k2) xx
  intro C' τ' vs' σ' H'' D k' l' nv' m
  refine z.1 hc C' τ' vs' σ' H'' D k' l' nv' ⟨fun ρ5 σ5 H5 q k6 => m.nx ρ5 σ5 H5 ?_ k6, m.rt, m.bk, fun ρ5 σ5 H5 q k6 => m.ct ρ5 σ5 H5 ?_ k6, m.ex⟩
  · obtain ⟨b', e1, e2, e3⟩ := q
    exact ⟨mu b', e1, b', rfl, e2, e3⟩
  · obtain ⟨b', e1, e2, e3⟩ := q
    exact ⟨mu b', e1, b', rfl, e2, e3⟩
end
end Kd

set_option Elab.async false
set_option linter.all false
set_option maxRecDepth 100000
/-! KdY: names, built-ins by their names. -/
namespace Kd
open PySem L2 PySem.Spec PyProof.Rows
open Evl (Ex ex_l ex_t ex_rd fresh_back)
def IsK (f : PyData → Bool) (r : Sl) (K : Bool → Prop) : Prop := ∃ d, r.dat d ∧ K (f d)
theorem isk {f : PyData → Bool} {d : PyData} {K : Bool → Prop} (k : K (f d)) : IsK f (.im d) K := ⟨d, rfl, k⟩
theorem iskA {f : PyData → Bool} {d : List PyData} {K : Bool → Prop} (k : K (f (.list d))) : IsK f (.al d) K := ⟨.list d, rfl, k⟩
section
variable {S : Sh} {fl : Bool} {ρ : List Sl} {e a b o : Expr} {rest es : List Expr} {pos p2 p : Pos} {X : Str → Prop} {Q : Sl → List Sl → Prop} {QB : Bool → List Sl → Prop} {r : Sl} {x : Str} {i : Nat}
theorem ce_vI {d : PyData} (hN : Ix S.N i x) (hs : ρ[i]? = some (.im d)) (hv : Vis S.sc x) (q : Q (.im d) ρ) (hd : (x == ("__debug__" : Str)) = false := by decide) (hcd : (x == ("__classdict__" : Str)) = false := by decide) : CE S fl ρ (.Name x pos) X Q := ce_var hN (by unfold lookR; rw [hs]; rfl) hv q hd hcd
theorem ce_vO {d : List PyData} (hN : Ix S.N i x) (hs : ρ[i]? = some (.ow d)) (hv : Vis S.sc x) (q : Q (.al d) ρ) (hd : (x == ("__debug__" : Str)) = false := by decide) (hcd : (x == ("__classdict__" : Str)) = false := by decide) : CE S fl ρ (.Name x pos) X Q := ce_var hN (by unfold lookR; rw [hs]; rfl) hv q hd hcd
theorem ce_vA {d : List PyData} (hN : Ix S.N i x) (hs : ρ[i]? = some (.al d)) (hv : Vis S.sc x) (q : Q (.al d) ρ) (hd : (x == ("__debug__" : Str)) = false := by decide) (hcd : (x == ("__classdict__" : Str)) = false := by decide) : CE S fl ρ (.Name x pos) X Q := ce_var hN (by unfold lookR; rw [hs]; rfl) hv q hd hcd
theorem ce_vR {R : Res} (hN : Ix S.N i x) (hs : ρ[i]? = some (.rs R)) (hv : Vis S.sc x) (q : Q (.vr R.lk) ρ) (hd : (x == ("__debug__" : Str)) = false := by decide) (hcd : (x == ("__classdict__" : Str)) = false := by decide) : CE S fl ρ (.Name x pos) X Q := ce_var hN (by unfold lookR; rw [hs]; rfl) hv q hd hcd
theorem ce_vV {A : Vw} (hN : Ix S.N i x) (hs : ρ[i]? = some (.vr A)) (hv : Vis S.sc x) (q : Q (.vr A) ρ) (hd : (x == ("__debug__" : Str)) = false := by decide) (hcd : (x == ("__classdict__" : Str)) = false := by decide) : CE S fl ρ (.Name x pos) X Q := ce_var hN (by unfold lookR; rw [hs]; rfl) hv q hd hcd

theorem bi_len (hx : x = "len") (hm : S.mg "len" = none) (h : CA S fl ρ (e :: es) X fun rs ρ1 => CK S (.builtin "len") rs fun s3 => Q s3 ρ1) (hg : S.sc.names.lookup ("len" : Str) = some .globalImplicit := by rfl)
    (he : ∀ X : Cx, starEach (e :: es) X.env = (false, eval e X.env) :: starEach es X.env := by intro _; rfl) (hpl : ∀ X : Cx, (backTo pos (starEach es X.env)).any (·.1) = false := by intro _; rfl) : CE S fl ρ (.Call (.Name x p) (e :: es) [] pos) X Q := by subst hx; exact ce_callB "len" hm h hg (by decide +kernel) (by decide) (by decide) he hpl
theorem bi_all (hx : x = "all") (hm : S.mg "all" = none) (h : CA S fl ρ (e :: es) X fun rs ρ1 => CK S (.builtin "all") rs fun s3 => Q s3 ρ1) (hg : S.sc.names.lookup ("all" : Str) = some .globalImplicit := by rfl)
    (he : ∀ X : Cx, starEach (e :: es) X.env = (false, eval e X.env) :: starEach es X.env := by intro _; rfl) (hpl : ∀ X : Cx, (backTo pos (starEach es X.env)).any (·.1) = false := by intro _; rfl) : CE S fl ρ (.Call (.Name x p) (e :: es) [] pos) X Q := by subst hx; exact ce_callB "all" hm h hg (by decide +kernel) (by decide) (by decide) he hpl
theorem bi_any (hx : x = "any") (hm : S.mg "any" = none) (h : CA S fl ρ (e :: es) X fun rs ρ1 => CK S (.builtin "any") rs fun s3 => Q s3 ρ1) (hg : S.sc.names.lookup ("any" : Str) = some .globalImplicit := by rfl)
    (he : ∀ X : Cx, starEach (e :: es) X.env = (false, eval e X.env) :: starEach es X.env := by intro _; rfl) (hpl : ∀ X : Cx, (backTo pos (starEach es X.env)).any (·.1) = false := by intro _; rfl) : CE S fl ρ (.Call (.Name x p) (e :: es) [] pos) X Q := by subst hx; exact ce_callB "any" hm h hg (by decide +kernel) (by decide) (by decide) he hpl
theorem bi_max (hx : x = "max") (hm : S.mg "max" = none) (h : CA S fl ρ (e :: es) X fun rs ρ1 => CK S (.builtin "max") rs fun s3 => Q s3 ρ1) (hg : S.sc.names.lookup ("max" : Str) = some .globalImplicit := by rfl)
    (he : ∀ X : Cx, starEach (e :: es) X.env = (false, eval e X.env) :: starEach es X.env := by intro _; rfl) (hpl : ∀ X : Cx, (backTo pos (starEach es X.env)).any (·.1) = false := by intro _; rfl) : CE S fl ρ (.Call (.Name x p) (e :: es) [] pos) X Q := by subst hx; exact ce_callB "max" hm h hg (by decide +kernel) (by decide) (by decide) he hpl
theorem bi_min (hx : x = "min") (hm : S.mg "min" = none) (h : CA S fl ρ (e :: es) X fun rs ρ1 => CK S (.builtin "min") rs fun s3 => Q s3 ρ1) (hg : S.sc.names.lookup ("min" : Str) = some .globalImplicit := by rfl)
    (he : ∀ X : Cx, starEach (e :: es) X.env = (false, eval e X.env) :: starEach es X.env := by intro _; rfl) (hpl : ∀ X : Cx, (backTo pos (starEach es X.env)).any (·.1) = false := by intro _; rfl) : CE S fl ρ (.Call (.Name x p) (e :: es) [] pos) X Q := by subst hx; exact ce_callB "min" hm h hg (by decide +kernel) (by decide) (by decide) he hpl
theorem bi_sum (hx : x = "sum") (hm : S.mg "sum" = none) (h : CA S fl ρ (e :: es) X fun rs ρ1 => CK S (.builtin "sum") rs fun s3 => Q s3 ρ1) (hg : S.sc.names.lookup ("sum" : Str) = some .globalImplicit := by rfl)
    (he : ∀ X : Cx, starEach (e :: es) X.env = (false, eval e X.env) :: starEach es X.env := by intro _; rfl) (hpl : ∀ X : Cx, (backTo pos (starEach es X.env)).any (·.1) = false := by intro _; rfl) : CE S fl ρ (.Call (.Name x p) (e :: es) [] pos) X Q := by subst hx; exact ce_callB "sum" hm h hg (by decide +kernel) (by decide) (by decide) he hpl
theorem bi_abs (hx : x = "abs") (hm : S.mg "abs" = none) (h : CA S fl ρ (e :: es) X fun rs ρ1 => CK S (.builtin "abs") rs fun s3 => Q s3 ρ1) (hg : S.sc.names.lookup ("abs" : Str) = some .globalImplicit := by rfl)
    (he : ∀ X : Cx, starEach (e :: es) X.env = (false, eval e X.env) :: starEach es X.env := by intro _; rfl) (hpl : ∀ X : Cx, (backTo pos (starEach es X.env)).any (·.1) = false := by intro _; rfl) : CE S fl ρ (.Call (.Name x p) (e :: es) [] pos) X Q := by subst hx; exact ce_callB "abs" hm h hg (by decide +kernel) (by decide) (by decide) he hpl
theorem bi_sorted (hx : x = "sorted") (hm : S.mg "sorted" = none) (h : CA S fl ρ (e :: es) X fun rs ρ1 => CK S (.builtin "sorted") rs fun s3 => Q s3 ρ1) (hg : S.sc.names.lookup ("sorted" : Str) = some .globalImplicit := by rfl)
    (he : ∀ X : Cx, starEach (e :: es) X.env = (false, eval e X.env) :: starEach es X.env := by intro _; rfl) (hpl : ∀ X : Cx, (backTo pos (starEach es X.env)).any (·.1) = false := by intro _; rfl) : CE S fl ρ (.Call (.Name x p) (e :: es) [] pos) X Q := by subst hx; exact ce_callB "sorted" hm h hg (by decide +kernel) (by decide) (by decide) he hpl
theorem bi_tuple (hx : x = "tuple") (hm : S.mg "tuple" = none) (h : CA S fl ρ (e :: es) X fun rs ρ1 => CK S (.type "tuple") rs fun s3 => Q s3 ρ1) (hg : S.sc.names.lookup ("tuple" : Str) = some .globalImplicit := by rfl)
    (he : ∀ X : Cx, starEach (e :: es) X.env = (false, eval e X.env) :: starEach es X.env := by intro _; rfl) (hpl : ∀ X : Cx, (backTo pos (starEach es X.env)).any (·.1) = false := by intro _; rfl) : CE S fl ρ (.Call (.Name x p) (e :: es) [] pos) X Q := by subst hx; exact ce_callT "tuple" hm h hg (by decide +kernel) (by decide) (by decide) he hpl
theorem bi_list (hx : x = "list") (hm : S.mg "list" = none) (h : CA S fl ρ (e :: es) X fun rs ρ1 => CK S (.type "list") rs fun s3 => Q s3 ρ1) (hg : S.sc.names.lookup ("list" : Str) = some .globalImplicit := by rfl)
    (he : ∀ X : Cx, starEach (e :: es) X.env = (false, eval e X.env) :: starEach es X.env := by intro _; rfl) (hpl : ∀ X : Cx, (backTo pos (starEach es X.env)).any (·.1) = false := by intro _; rfl) : CE S fl ρ (.Call (.Name x p) (e :: es) [] pos) X Q := by subst hx; exact ce_callT "list" hm h hg (by decide +kernel) (by decide) (by decide) he hpl
theorem bi_int (hx : x = "int") (hm : S.mg "int" = none) (h : CA S fl ρ (e :: es) X fun rs ρ1 => CK S (.type "int") rs fun s3 => Q s3 ρ1) (hg : S.sc.names.lookup ("int" : Str) = some .globalImplicit := by rfl)
    (he : ∀ X : Cx, starEach (e :: es) X.env = (false, eval e X.env) :: starEach es X.env := by intro _; rfl) (hpl : ∀ X : Cx, (backTo pos (starEach es X.env)).any (·.1) = false := by intro _; rfl) : CE S fl ρ (.Call (.Name x p) (e :: es) [] pos) X Q := by subst hx; exact ce_callT "int" hm h hg (by decide +kernel) (by decide) (by decide) he hpl
theorem bi_str (hx : x = "str") (hm : S.mg "str" = none) (h : CA S fl ρ (e :: es) X fun rs ρ1 => CK S (.type "str") rs fun s3 => Q s3 ρ1) (hg : S.sc.names.lookup ("str" : Str) = some .globalImplicit := by rfl)
    (he : ∀ X : Cx, starEach (e :: es) X.env = (false, eval e X.env) :: starEach es X.env := by intro _; rfl) (hpl : ∀ X : Cx, (backTo pos (starEach es X.env)).any (·.1) = false := by intro _; rfl) : CE S fl ρ (.Call (.Name x p) (e :: es) [] pos) X Q := by subst hx; exact ce_callT "str" hm h hg (by decide +kernel) (by decide) (by decide) he hpl
theorem bi_dict (hx : x = "dict") (hm : S.mg "dict" = none) (h : CA S fl ρ (e :: es) X fun rs ρ1 => CK S (.type "dict") rs fun s3 => Q s3 ρ1) (hg : S.sc.names.lookup ("dict" : Str) = some .globalImplicit := by rfl)
    (he : ∀ X : Cx, starEach (e :: es) X.env = (false, eval e X.env) :: starEach es X.env := by intro _; rfl) (hpl : ∀ X : Cx, (backTo pos (starEach es X.env)).any (·.1) = false := by intro _; rfl) : CE S fl ρ (.Call (.Name x p) (e :: es) [] pos) X Q := by subst hx; exact ce_callT "dict" hm h hg (by decide +kernel) (by decide) (by decide) he hpl
theorem bi_set (hx : x = "set") (hm : S.mg "set" = none) (h : CA S fl ρ (e :: es) X fun rs ρ1 => CK S (.type "set") rs fun s3 => Q s3 ρ1) (hg : S.sc.names.lookup ("set" : Str) = some .globalImplicit := by rfl)
    (he : ∀ X : Cx, starEach (e :: es) X.env = (false, eval e X.env) :: starEach es X.env := by intro _; rfl) (hpl : ∀ X : Cx, (backTo pos (starEach es X.env)).any (·.1) = false := by intro _; rfl) : CE S fl ρ (.Call (.Name x p) (e :: es) [] pos) X Q := by subst hx; exact ce_callT "set" hm h hg (by decide +kernel) (by decide) (by decide) he hpl
theorem is_int {x y : Str} (hx : x = "isinstance") (hy : y = "int") (hm : S.mg "isinstance" = none) (hm2 : S.mg "int" = none) (h : CE S fl ρ a X fun r ρ1 => IsK isIntD r fun b => Q (.im (.bool b)) ρ1) (hg : S.sc.names.lookup ("isinstance" : Str) = some .globalImplicit := by rfl) (hg2 : S.sc.names.lookup ("int" : Str) = some .globalImplicit := by rfl)
    (he : ∀ X : Cx, starEach [a, .Name y p2] X.env = (false, eval a X.env) :: starEach [.Name y p2] X.env := by intro _; rfl) : CE S fl ρ (.Call (.Name x p) [a, .Name y p2] [] pos) X Q := by
  subst hx hy
  exact fun C τ vs σ H k l nv QQ qq xx => ⟨tCB (rIsi S.K) (tCons (wE S a) (tCons (tC (.ty "int")) tNil)), fun X hX => pe_callB (by rw [← hX.K]; exact call_isi) (by show X.env.scope.names.lookup _ = _; rw [hX.sc]; exact hg) (by rw [hX.mg]; exact hm) (by decide +kernel)
      (pa_cons (wE_pe hX) (pa_cons (pe_bltn (by show X.env.scope.names.lookup _ = _; rw [hX.sc]; exact hg2) (by rw [hX.mg]; exact hm2) (by decide +kernel) rfl (by decide) (by decide)) pa_nil) (he X)) (by decide) (by decide) (he X), h C τ vs σ H k l nv _ (fun r ρ1 v1 H1 z k1 => by
    obtain ⟨d, h1, q⟩ := z
    exact ⟨v1, .ty "int", .type (tyD d), .type "int", _, rfl, .ty "int", (k1.dt h1).ty, kit_ty (kit_int d), qq _ _ _ _ q (k1.tail.flat (.bl _))⟩) xx⟩
theorem is_bool {x y : Str} (hx : x = "isinstance") (hy : y = "bool") (hm : S.mg "isinstance" = none) (hm2 : S.mg "bool" = none) (h : CE S fl ρ a X fun r ρ1 => IsK isBoolD r fun b => Q (.im (.bool b)) ρ1) (hg : S.sc.names.lookup ("isinstance" : Str) = some .globalImplicit := by rfl) (hg2 : S.sc.names.lookup ("bool" : Str) = some .globalImplicit := by rfl)
    (he : ∀ X : Cx, starEach [a, .Name y p2] X.env = (false, eval a X.env) :: starEach [.Name y p2] X.env := by intro _; rfl) : CE S fl ρ (.Call (.Name x p) [a, .Name y p2] [] pos) X Q := by
  subst hx hy
  exact fun C τ vs σ H k l nv QQ qq xx => ⟨tCB (rIsi S.K) (tCons (wE S a) (tCons (tC (.ty "bool")) tNil)), fun X hX => pe_callB (by rw [← hX.K]; exact call_isi) (by show X.env.scope.names.lookup _ = _; rw [hX.sc]; exact hg) (by rw [hX.mg]; exact hm) (by decide +kernel)
      (pa_cons (wE_pe hX) (pa_cons (pe_bltn (by show X.env.scope.names.lookup _ = _; rw [hX.sc]; exact hg2) (by rw [hX.mg]; exact hm2) (by decide +kernel) rfl (by decide) (by decide)) pa_nil) (he X)) (by decide) (by decide) (he X), h C τ vs σ H k l nv _ (fun r ρ1 v1 H1 z k1 => by
    obtain ⟨d, h1, q⟩ := z
    exact ⟨v1, .ty "bool", .type (tyD d), .type "bool", _, rfl, .ty "bool", (k1.dt h1).ty, kit_ty (kit_bool d), qq _ _ _ _ q (k1.tail.flat (.bl _))⟩) xx⟩
theorem is_tuple {x y : Str} (hx : x = "isinstance") (hy : y = "tuple") (hm : S.mg "isinstance" = none) (hm2 : S.mg "tuple" = none) (h : CE S fl ρ a X fun r ρ1 => IsK isTupD r fun b => Q (.im (.bool b)) ρ1) (hg : S.sc.names.lookup ("isinstance" : Str) = some .globalImplicit := by rfl) (hg2 : S.sc.names.lookup ("tuple" : Str) = some .globalImplicit := by rfl)
    (he : ∀ X : Cx, starEach [a, .Name y p2] X.env = (false, eval a X.env) :: starEach [.Name y p2] X.env := by intro _; rfl) : CE S fl ρ (.Call (.Name x p) [a, .Name y p2] [] pos) X Q := by
  subst hx hy
  exact fun C τ vs σ H k l nv QQ qq xx => ⟨tCB (rIsi S.K) (tCons (wE S a) (tCons (tC (.ty "tuple")) tNil)), fun X hX => pe_callB (by rw [← hX.K]; exact call_isi) (by show X.env.scope.names.lookup _ = _; rw [hX.sc]; exact hg) (by rw [hX.mg]; exact hm) (by decide +kernel)
      (pa_cons (wE_pe hX) (pa_cons (pe_bltn (by show X.env.scope.names.lookup _ = _; rw [hX.sc]; exact hg2) (by rw [hX.mg]; exact hm2) (by decide +kernel) rfl (by decide) (by decide)) pa_nil) (he X)) (by decide) (by decide) (he X), h C τ vs σ H k l nv _ (fun r ρ1 v1 H1 z k1 => by
    obtain ⟨d, h1, q⟩ := z
    exact ⟨v1, .ty "tuple", .type (tyD d), .type "tuple", _, rfl, .ty "tuple", (k1.dt h1).ty, kit_ty (kit_tuple d), qq _ _ _ _ q (k1.tail.flat (.bl _))⟩) xx⟩
theorem is_str {x y : Str} (hx : x = "isinstance") (hy : y = "str") (hm : S.mg "isinstance" = none) (hm2 : S.mg "str" = none) (h : CE S fl ρ a X fun r ρ1 => IsK isStrD r fun b => Q (.im (.bool b)) ρ1) (hg : S.sc.names.lookup ("isinstance" : Str) = some .globalImplicit := by rfl) (hg2 : S.sc.names.lookup ("str" : Str) = some .globalImplicit := by rfl)
    (he : ∀ X : Cx, starEach [a, .Name y p2] X.env = (false, eval a X.env) :: starEach [.Name y p2] X.env := by intro _; rfl) : CE S fl ρ (.Call (.Name x p) [a, .Name y p2] [] pos) X Q := by
  subst hx hy
  exact fun C τ vs σ H k l nv QQ qq xx => ⟨tCB (rIsi S.K) (tCons (wE S a) (tCons (tC (.ty "str")) tNil)), fun X hX => pe_callB (by rw [← hX.K]; exact call_isi) (by show X.env.scope.names.lookup _ = _; rw [hX.sc]; exact hg) (by rw [hX.mg]; exact hm) (by decide +kernel)
      (pa_cons (wE_pe hX) (pa_cons (pe_bltn (by show X.env.scope.names.lookup _ = _; rw [hX.sc]; exact hg2) (by rw [hX.mg]; exact hm2) (by decide +kernel) rfl (by decide) (by decide)) pa_nil) (he X)) (by decide) (by decide) (he X), h C τ vs σ H k l nv _ (fun r ρ1 v1 H1 z k1 => by
    obtain ⟨d, h1, q⟩ := z
    exact ⟨v1, .ty "str", .type (tyD d), .type "str", _, rfl, .ty "str", (k1.dt h1).ty, kit_ty (kit_str d), qq _ _ _ _ q (k1.tail.flat (.bl _))⟩) xx⟩
theorem is_list {x y : Str} (hx : x = "isinstance") (hy : y = "list") (hm : S.mg "isinstance" = none) (hm2 : S.mg "list" = none) (h : CE S fl ρ a X fun r ρ1 => IsK isListD r fun b => Q (.im (.bool b)) ρ1) (hg : S.sc.names.lookup ("isinstance" : Str) = some .globalImplicit := by rfl) (hg2 : S.sc.names.lookup ("list" : Str) = some .globalImplicit := by rfl)
    (he : ∀ X : Cx, starEach [a, .Name y p2] X.env = (false, eval a X.env) :: starEach [.Name y p2] X.env := by intro _; rfl) : CE S fl ρ (.Call (.Name x p) [a, .Name y p2] [] pos) X Q := by
  subst hx hy
  exact fun C τ vs σ H k l nv QQ qq xx => ⟨tCB (rIsi S.K) (tCons (wE S a) (tCons (tC (.ty "list")) tNil)), fun X hX => pe_callB (by rw [← hX.K]; exact call_isi) (by show X.env.scope.names.lookup _ = _; rw [hX.sc]; exact hg) (by rw [hX.mg]; exact hm) (by decide +kernel)
      (pa_cons (wE_pe hX) (pa_cons (pe_bltn (by show X.env.scope.names.lookup _ = _; rw [hX.sc]; exact hg2) (by rw [hX.mg]; exact hm2) (by decide +kernel) rfl (by decide) (by decide)) pa_nil) (he X)) (by decide) (by decide) (he X), h C τ vs σ H k l nv _ (fun r ρ1 v1 H1 z k1 => by
    obtain ⟨d, h1, q⟩ := z
    exact ⟨v1, .ty "list", .type (tyD d), .type "list", _, rfl, .ty "list", (k1.dt h1).ty, kit_ty (kit_list d), qq _ _ _ _ q (k1.tail.flat (.bl _))⟩) xx⟩
theorem is_dict {x y : Str} (hx : x = "isinstance") (hy : y = "dict") (hm : S.mg "isinstance" = none) (hm2 : S.mg "dict" = none) (h : CE S fl ρ a X fun r ρ1 => IsK isDictD r fun b => Q (.im (.bool b)) ρ1) (hg : S.sc.names.lookup ("isinstance" : Str) = some .globalImplicit := by rfl) (hg2 : S.sc.names.lookup ("dict" : Str) = some .globalImplicit := by rfl)
    (he : ∀ X : Cx, starEach [a, .Name y p2] X.env = (false, eval a X.env) :: starEach [.Name y p2] X.env := by intro _; rfl) : CE S fl ρ (.Call (.Name x p) [a, .Name y p2] [] pos) X Q := by
  subst hx hy
  exact fun C τ vs σ H k l nv QQ qq xx => ⟨tCB (rIsi S.K) (tCons (wE S a) (tCons (tC (.ty "dict")) tNil)), fun X hX => pe_callB (by rw [← hX.K]; exact call_isi) (by show X.env.scope.names.lookup _ = _; rw [hX.sc]; exact hg) (by rw [hX.mg]; exact hm) (by decide +kernel)
      (pa_cons (wE_pe hX) (pa_cons (pe_bltn (by show X.env.scope.names.lookup _ = _; rw [hX.sc]; exact hg2) (by rw [hX.mg]; exact hm2) (by decide +kernel) rfl (by decide) (by decide)) pa_nil) (he X)) (by decide) (by decide) (he X), h C τ vs σ H k l nv _ (fun r ρ1 v1 H1 z k1 => by
    obtain ⟨d, h1, q⟩ := z
    exact ⟨v1, .ty "dict", .type (tyD d), .type "dict", _, rfl, .ty "dict", (k1.dt h1).ty, kit_ty (kit_dict d), qq _ _ _ _ q (k1.tail.flat (.bl _))⟩) xx⟩
theorem co_int {Q : Option Int → List Sl → Prop} (h : CE S fl ρ e X fun r ρ1 => InK r fun i => Q (some i) ρ1) : CO S fl ρ (some e) X Q := fun C τ vs σ H k l nv QQ qq xx =>
  ⟨tPart (wE S e), fun X hX => po_some (wE_pe hX), h C τ vs σ H k l nv _ (fun r ρ1 v H' z k2 => by
    obtain ⟨i, rfl, q⟩ := z
    have e := k2.int
    subst e
    exact ⟨i, rfl, qq _ _ _ q k2.tail⟩) xx⟩
end
section
variable {S : Sh} {ρ : List Sl} {e a b o : Expr} {rest : List Stmt} {pos p2 p : Pos} {P : Pst} {x : Str} {i : Nat}
theorem rs_augX {u : Int} {op : Operator} {f : Int → Int → Int} (hN : Ix S.N i x) (hr : ρ[i]? = some (.im (.int u))) (h : CE S true ρ e P.ex fun r ρ1 => InK r fun w => P.nx (ρ1.set i (.im (.int (f u w))))) (ho : ∀ X : Cx, PIp X op (ipI f)) (hnd : S.N.Nodup := by walk_at "kd nd") (hx : Loc S.sc x := by walk_at "kd loc")
    (hf : S.fa = true ∨ S.sc.names.lookup x = some .local := by first | exact .inl rfl | exact .inr rfl) : RS S ρ (.AugAssign (.Name x p) op e pos) P :=
  rs_of (t := tAug i (wE S e) (ipI f)) (fun X hX => ps_aug (by rw [hX.N]; exact hnd) (by rw [hX.N]; exact hN.get) (by rw [hX.sc]; exact hx) (wE_pe hX) (ho X) (hf.elim (fun z => .inl (hX.fn z x)) fun z => .inr (by rw [hX.sc]; exact z)))
    fun C τ vs σ H D k l nv m => by
    obtain ⟨v, ev, k2⟩ := k.alias (off_get (τ := τ) hr) (by intro z; cases z)
    rw [l, List.getElem?_append_right (Nat.le_add_right _ _), Nat.add_sub_cancel_left] at ev
    have e0 : v = .int u := Ok.int k2
    subst e0
    refine ⟨_, ev, h C τ vs σ H k l (fun _ => nv) _ (fun r ρ1 y H' z k3 => ?_) (.ofMeet m)⟩
    obtain ⟨w, rfl, q⟩ := z
    have e1 := k3.int
    subst e1
    refine ⟨u, w, rfl, rfl, m.nx _ _ H' q ?_⟩
    have k4 := Ok.set (i := τ.length + i) (k3.tail.flat (.int (f u w)))
    rw [off_set, l, List.set_append_right _ _ (Nat.le_add_right _ _), Nat.add_sub_cancel_left] at k4
    exact k4
theorem rx_add {u : Int} (hN : Ix S.N i x) (hr : ρ[i]? = some (.im (.int u))) (h : CE S true ρ e P.ex fun r ρ1 => InK r fun w => RB S (ρ1.set i (.im (.int (u + w)))) rest P) (hnd : S.N.Nodup := by walk_at "kd nd") (hx : Loc S.sc x := by walk_at "kd loc")
    (hf : S.fa = true ∨ S.sc.names.lookup x = some .local := by first | exact .inl rfl | exact .inr rfl) : RB S ρ (.AugAssign (.Name x p) .Add e pos :: rest) P := rb_cons (rs_augX hN hr h (fun _ => ip_add) hnd hx hf)
theorem rx_sub {u : Int} (hN : Ix S.N i x) (hr : ρ[i]? = some (.im (.int u))) (h : CE S true ρ e P.ex fun r ρ1 => InK r fun w => RB S (ρ1.set i (.im (.int (u - w)))) rest P) (hnd : S.N.Nodup := by walk_at "kd nd") (hx : Loc S.sc x := by walk_at "kd loc")
    (hf : S.fa = true ∨ S.sc.names.lookup x = some .local := by first | exact .inl rfl | exact .inr rfl) : RB S ρ (.AugAssign (.Name x p) .Sub e pos :: rest) P := rb_cons (rs_augX hN hr h (fun _ => ip_sub) hnd hx hf)
def SetX (i : Nat) (d : PyData) (K : List Sl → Prop) (s : Sl) (ρ : List Sl) : Prop := SetK i ρ s d K
/-- x[ix] = e -/
theorem rx_set {p1 p2 : Pos} {ix : Expr} (hN : Ix S.N i x) (hv : Vis S.sc x) (h : CE S true ρ e P.ex fun r ρ1 => ImK r fun d => ∃ ds0, ρ1[i]? = some (.ow ds0) ∧ CE S false ρ1 ix P.ex fun s ρ2 => SetK i ρ2 s d fun ρ3 => RB S ρ3 rest P)
    (hd : (x == ("__debug__" : Str)) = false := by decide) (hcd : (x == ("__classdict__" : Str)) = false := by decide)
    (hs : ∀ X : Cx, swapsWithSole [.Subscript (.Name x p1) ix p2] e pos.line X.env = pure false := by intro _; rfl) (hw : ∀ X : Cx, swappedStores [.Subscript (.Name x p1) ix p2] e X.env = pure none := by intro _; rfl)
    (h1 : ∀ X : Cx, (assignEach [.Subscript (.Name x p1) ix p2] X.env).map (·.2) = [assign (.Subscript (.Name x p1) ix p2) X.env] := by intro _; rfl)
    (ha : ∀ (X : Cx) v, assign (.Subscript (.Name x p1) ix p2) X.env v = (do
      let ov ← holding [v] (eval (.Name x p1) X.env)
      let iv ← holding [v, ov] (eval ix X.env)
      standAt p2
      holding [v, ov, iv] (setItem ov iv v)
      release [v, ov, iv] []) := by intro _ _; rfl) : RB S ρ (.Assign [.Subscript (.Name x p1) ix p2] e pos :: rest) P := rb_cons (
  rs_of (t := tAsg (wE S e) (gSub (tVar i) (wE S ix) rSetL)) (fun X hX => ps_asg (wE_pe hX) (pg_sub (pe_var (by rw [hX.N]; exact hN.get) (by rw [hX.sc]; exact hv) hd hcd) (wE_pe hX) set_list (ha X)) (hs X) (hw X) (h1 X)) fun C τ vs σ H D k l nvt m => h C τ vs σ H k l (fun _ => nvt) _ (fun r ρ1 y H1 z k1 => by
    have fin : ∀ d, Ok S.K C (.im d :: (τ ++ ρ1)) (some y :: (vs ++ σ)) H1 → (∃ ds0, ρ1[i]? = some (.ow ds0) ∧ CE S false ρ1 ix P.ex fun s ρ2 => SetK i ρ2 s d fun ρ3 => RB S ρ3 rest P) → gSub (tVar i) (wE S ix) rSetL y σ H1 D.nx := fun d k1 z => by
      obtain ⟨ds0, hr0, hi⟩ := z
      obtain ⟨v, ev, k2⟩ := k1.alias (i := τ.length + i + 1) (s := .ow ds0) (by rw [List.getElem?_cons_succ]; exact off_get hr0) (by intro z; cases z)
      rw [List.getElem?_cons_succ] at ev
      have ev' := ev
      rw [l, List.getElem?_append_right (Nat.le_add_right _ _), Nat.add_sub_cancel_left] at ev
      refine ⟨v, ev, hi C (_ :: _ :: τ) (some v :: some y :: vs) σ H1 k2 (congrArg (· + 2) l) (fun z => nomatch z) _ (fun s ρ2 w H2 z k3 => ?_) (XH.cons (XH.cons (fun c cv ρ' H' x hm k => m.ex c cv ρ' σ H' x hm k)))⟩
      obtain ⟨ds, kk, j, rfl, hr, hj, nv, q⟩ := z
      have e3 := k3.int
      subst e3
      have k3' : Ok S.K C (.im (.int _) :: .al ds0 :: .im d :: (τ ++ ρ2)) (some _ :: some v :: some y :: (vs ++ σ)) H2 := k3
      obtain ⟨B, G, fp, k4, hy⟩ := k3'.tail.tail.head
      obtain ⟨p, xs, e1, hp, hd, fin⟩ := k4.change (nv_all nvt nv) (off_get (τ := τ) hr)
      rw [e1] at ev'
      cases ev'
      refine ⟨p, xs, _, j, rfl, rfl, hp, by rw [hd.len]; exact hj, m.nx _ σ _ q ?_⟩
      have k5 := fin (xs.set j y) (ds.set j d) (hd.set hy j)
      rw [off_set] at k5
      exact k5
    rcases z with ⟨d, rfl, z⟩ | ⟨ds, rfl, z⟩
    · exact fin d k1 z
    · exact fin _ k1.freeze z) (fun c cv ρ' H' x hm k => m.ex c cv ρ' σ H' x hm k))
end
end Kd

set_option Elab.async false
set_option linter.all false
set_option maxRecDepth 100000
/-! KdZ: further rules, told from left to right. -/
namespace Kd
open PySem L2 PySem.Spec PyProof.Rows
open Evl (Ex ex_l ex_t ex_rd fresh_back)
section
variable {S : Sh} {fl : Bool} {ρ : List Sl} {e a b o tg elt : Expr} {es : List Expr} {rest body : List Stmt} {pos p2 p apos : Pos} {X : Str → Prop} {Q : Sl → List Sl → Prop} {P : Pst} {x : Str} {i : Nat}
theorem ce_neg (h : CE S fl ρ a X fun r ρ1 => InK r fun i => Q (.im (.int (-i))) ρ1) : CE S fl ρ (.UnaryOp .USub a pos) X Q := fun C τ vs σ H k l nv QQ qq xx =>
  ⟨tUn (rU fun i => .int (-i)) (wE S a), fun X hX => pe_un un_neg (wE_pe hX), h C τ vs σ H k l nv _ (fun r ρ1 v1 H1 z k1 => by
    obtain ⟨i, rfl, q⟩ := z
    have e1 := k1.int
    subst e1
    exact ⟨i, rfl, qq _ _ _ _ q (k1.tail.flat (.int _))⟩) xx⟩
/-! texts joined -/
def JoK (x : Str) (s2 : Sl) (K : Str → Prop) : Prop := ∃ ys : List Str, (s2 = .im (.list (ys.map .str)) ∨ s2 = .al (ys.map .str) ∨ s2 = .ow (ys.map .str)) ∧ (ys.map (·.length)).sum + ys.length * x.length ≤ 16777216 ∧ K (Txt.join x ys)
theorem jok {x : Str} {ys : List Str} {s : Sl} {K : Str → Prop} (h : s = .im (.list (ys.map .str)) ∨ s = .al (ys.map .str) ∨ s = .ow (ys.map .str)) (hz : (ys.map (·.length)).sum + ys.length * x.length ≤ 16777216) (k : K (Txt.join x ys)) : JoK x s K := ⟨ys, h, hz, k⟩
def StK (s : Sl) (K : Str → Prop) : Prop := ∃ x, s = .im (.str x) ∧ K x
theorem stk {x : Str} {K : Str → Prop} (h : K x) : StK (.im (.str x)) K := ⟨x, rfl, h⟩
theorem ce_join {y : Str} (hy : y = "join") (h : CE S fl ρ o X fun s1 ρ1 => StK s1 fun x => CE S fl ρ1 e X fun s2 ρ2 => JoK x s2 fun z => Q (.im (.str z)) ρ2)
    (hse : ∀ X : Cx, starEach [e] X.env = [(false, eval e X.env)] := by intro _; rfl) (hbase : ∀ X : Cx, attributeBase o "join" X.env (eval o X.env) = eval o X.env := by intro _; rfl) (hline : (apos.endLine == pos.line) = true := by rfl) :
    CE S fl ρ (.Call (.Attribute o y apos) [e] [] pos) X Q := by
  subst hy
  exact fun C τ vs σ H k l nv QQ qq xx =>
  ⟨tM1 (fun x xs H Q => ∃ a p, ∃ ys : List Str, x = .str a ∧ xs = [.ref p] ∧ (SqL S.K H p (ys.map V.str) ∨ SqT S.K H p (ys.map V.str)) ∧ (ys.map (·.length)).sum + ys.length * a.length ≤ 16777216 ∧ Q (.str (Txt.join a ys)) H) (wE S o) (wE S e),
    fun X hX => by rw [← hX.K]; exact pe_join (wE_pe hX) (wE_pe hX) (hse X) (hbase X) hline, h C τ vs σ H k l nv _ (fun s1 ρ1 v1 H1 h1 k1 => by
      obtain ⟨x, rfl, h1⟩ := h1
      have q1 := k1.str
      subst q1
      refine ⟨⟨x, rfl⟩, h1 C τ vs σ H1 k1.tail l nv _ (fun s2 ρ2 v2 H2 z k2 => ?_) xx⟩
      obtain ⟨ys, h2, hz, q⟩ := z
      obtain ⟨B, G, fp, p, xs, k3, rfl, hs, hd⟩ := items_of k2 h2
      have e1 := hd.strs
      subst e1
      exact ⟨x, p, ys, rfl, rfl, .inl hs, hz, qq _ _ _ _ q (k2.tail.flat (.str _))⟩) xx⟩
/-! draws within comprehensions and ahead of loops -/
theorem ce_draws (own : List (Str × Nat)) {sc : Scope} {p1 : Pos} (Pn : Nat → Prop) (R : PyData → Prop) (hm : S.mg "range" = none) (hn : CE S true ρ e (fun _ => False) fun r ρ' => ρ' = ρ ∧ ImK r fun d => ∃ n : Nat, d = .int n ∧ n ≤ 100000 ∧ Pn n)
    (hb : ∀ n i, Pn n → i < n → CB (S.blk sc) ρ own tg (.int (i : Nat)) fun ρ2 => CE (S.blk sc) true ρ2 elt (fun _ => False) fun r ρ' => ρ' = ρ2 ∧ ImK r R)
    (q : ∀ acc, Pn acc.length → (∀ d ∈ acc, R d) → Q (.im (.list acc)) ρ) (ok : BlkOk S.N S.sc sc own := by walk_at "kd blk") (hnd : S.N.Nodup := by walk_at "kd nd") (hno : noAt ρ own = true := by rfl) (hg : S.sc.names.lookup ("range" : Str) = some .globalImplicit := by rfl)
    (hse : ∀ X : Cx, starEach [e] X.env = (false, eval e X.env) :: starEach [] X.env := by intro _; rfl) (hfs : ∀ (X : Cx) x, foldedSetIterable (.Call (.Name "range" p1) [e] [] p2) X.env x = pure x := by intro _ _; rfl) :
    CE S true ρ (.ListComp elt [⟨tg, .Call (.Name "range" p1) [e] [] p2, [], 0⟩] sc pos) X Q := by
  refine ce_er (P := fun d => ∃ acc, d = .list acc ∧ Pn acc.length ∧ ∀ d ∈ acc, R d) (er_lc own (Pn := fun n => Pn n ∧ n ≤ 100000) (ir_range1 hm (er_ce hn) (fun d z => by
    obtain ⟨n, rfl, h1, h2⟩ := z
    exact ⟨n, rfl, by omega, h2, h1⟩) hg hse) (fun n i acc => ∀ d ∈ acc, R d) (fun n _ d z => nomatch z) (fun n z => z.2) ok hnd (noAt_ok hno) (fun n i acc hn hi hl hI => ?_) (fun n acc hn hl hI => ⟨acc, rfl, hl ▸ hn.1, hI⟩) hfs) (fun d z => ?_)
  · obtain ⟨ρ2, ix, h1, h2, h3, h4⟩ := hb n i hn.1 hi
    refine ⟨ρ2, ix, h2, h3, h1, er_imp (er_ce h4) fun d hd x hx => ?_⟩
    rcases List.mem_append.mp hx with z | z
    · exact hI x z
    · rw [List.mem_singleton] at z
      subst z
      exact hd
  · obtain ⟨acc, rfl, h1, h2⟩ := z
    exact q acc h1 h2
/-- for i in range(drawn): a told state -/
theorem rc_forR {β : Type} {p1 : Pos} (Pn : Nat → Prop) (I : Nat → β → Prop) (st : Nat → β → List Sl) (hm : S.mg "range" = none) (hn : CE S true ρ e (fun _ => False) fun r ρ' => ρ' = ρ ∧ ImK r fun d => ∃ n : Nat, d = .int n ∧ n ≤ 100000 ∧ Pn n) (b0 : β) (i0 : I 0 b0) (h0 : Fg ρ (st 0 b0))
    (hs : ∀ n i b, Pn n → i < n → I i b → ∃ ρ2 ix, GD S (st i b) tg (.int (i : Nat)) ρ2 ix ∧ RB S ρ2 body { P with nx := fun ρ' => ∃ b', I (i + 1) b' ∧ Fg ρ' (st (i + 1) b'), ct := fun ρ' => ∃ b', I (i + 1) b' ∧ Fg ρ' (st (i + 1) b'), bk := fun ρ' => RB S ρ' rest P })
    (hd : ∀ n b, Pn n → I n b → RB S (st n b) rest P) (hg : S.sc.names.lookup ("range" : Str) = some .globalImplicit := by rfl)
    (hse : ∀ X : Cx, starEach [e] X.env = (false, eval e X.env) :: starEach [] X.env := by intro _; rfl) (hfs : ∀ (X : Cx) x, foldedSetIterable (.Call (.Name "range" p1) [e] [] p2) X.env x = pure x := by intro _ _; rfl) :
    RB S ρ (.For tg (.Call (.Name "range" p1) [e] [] p2) body [] pos :: rest) P := by
  refine rb_cons (rs_forR (Pn := Pn) (ir_range1 hm (er_ce hn) (fun d z => by
    obtain ⟨n, rfl, h1, h2⟩ := z
    exact ⟨n, rfl, by omega, h2⟩) hg hse) (fun n i ρ1 => ∃ b, I i b ∧ Fg ρ1 (st i b)) (fun n _ => ⟨b0, i0, h0⟩) (fun n i ρ1 hn hi hI => ?_) (fun n ρ1 hn hI => ?_) hfs)
  · obtain ⟨b, i1, hI⟩ := hI
    obtain ⟨ρ2, ix, hg, hb⟩ := hs n i b hn hi i1
    refine ⟨ρ2, ix, fun C τ vs σ H v k l Q q => ?_, hb⟩
    exact hg C τ vs σ H v (k.fg (.keep rfl (hI.under τ))) l Q q
  · obtain ⟨b, i1, hI⟩ := hI
    exact rb_fg hI (hd n b hn i1)
/-- x.pop(e) -/
theorem rc_popAt {ds0 : List PyData} {p1 p2 p3 : Pos} (hN : Ix S.N i x) (hr0 : ρ[i]? = some (.ow ds0)) (hv : Vis S.sc x) (h : CE S true ρ e P.ex fun r ρ1 => InK r fun n => ∃ ds, ρ1[i]? = some (.ow ds) ∧ 0 ≤ n ∧ n < ds.length ∧ ds.length < 100000 ∧ ρ1.all noV = true ∧ RB S (ρ1.set i (.ow (ds.eraseIdx n.toNat))) rest P)
    (hd : (x == ("__debug__" : Str)) = false := by decide) (hcd : (x == ("__classdict__" : Str)) = false := by decide)
    (hfew : ∀ X : Cx, ((backTo p3 (starEach [e] X.env)).all (fun x => !x.1) && (backToKw p3 (keywordEach [] X.env)).all (fun x => x.1.isSome) && decide ([e].length + ([] : List Keyword).length + (if ([] : List Keyword).isEmpty then 0 else 1) < 30)) = true := by intro _; rfl)
    (hline : (p2.endLine == p3.line) = true := by rfl) (hse : ∀ X : Cx, starEach [e] X.env = (false, eval e X.env) :: starEach [] X.env := by intro _; rfl)
    (hs : ∀ X : Cx, swapsWith (.Call (.Attribute (.Name x p1) "pop" p2) [e] [] p3) none pos.line X.env = pure false := by intro _; rfl) : RB S ρ (.Expr (.Call (.Attribute (.Name x p1) "pop" p2) [e] [] p3) pos :: rest) P :=
  rb_cons (rs_of (t := tDrop (tBM S.K "list" rPopAt (tVar i) (tCons (wE S e) tNil))) (fun X hX => ps_expr (by
      rw [← hX.K]
      exact pe_bm PySem.F.plainAttrs_list PySem.F.slot_list_pop PySem.F.type_list_pop mt_popAt (pe_var (by rw [hX.N]; exact hN.get) (by rw [hX.sc]; exact hv) hd hcd) (pa_cons (wE_pe hX) pa_nil (hse X)) rfl (hfew X) hline (hse X) rfl) (hs X)) fun C τ vs σ H D k l nvt m => by
    obtain ⟨v, ev, k1⟩ := k.alias (off_get (τ := τ) hr0) (by intro z; cases z)
    rw [l, List.getElem?_append_right (Nat.le_add_right _ _), Nat.add_sub_cancel_left] at ev
    refine ⟨v, ev, ?_, h C τ vs σ H k l (fun _ => nvt) _ (fun r ρ1 y H1 z k2 => ?_) (fun c cv ρ' H' x hm k => m.ex c cv ρ' σ H' x hm k)⟩
    · have kd := k1.dt (d := .list ds0) rfl
      cases kd with
      | lst hs _ => exact .inl ⟨rfl, _, hs⟩
    · obtain ⟨n, rfl, ds, hr, n0, n1, nz, nv, q⟩ := z
      have e3 := k2.int
      subst e3
      obtain ⟨B, G, fp, k3⟩ := k2.tail
      obtain ⟨p, xs, e1, hp, hd, fin⟩ := k3.change (nv_all nvt nv) (off_get (τ := τ) hr)
      rw [l, List.getElem?_append_right (Nat.le_add_right _ _), Nat.add_sub_cancel_left, ev] at e1
      cases e1
      have hl := hd.len
      have hx : n.toNat < xs.length := by omega
      refine ⟨p, xs, n, n.toNat, xs[n.toNat], rfl, rfl, hp, by omega, by omega, ?_, List.getElem?_eq_getElem hx, m.nx _ σ _ q ?_⟩
      · exact seqIndex_of n0 (by omega)
      · have k4 := fin (xs.eraseIdx n.toNat) (ds.eraseIdx n.toNat) (by rw [List.eraseIdx_eq_take_drop_succ, List.eraseIdx_eq_take_drop_succ]; exact (hd.take _).app (hd.drop _))
        rw [off_set] at k4
        exact k4)
/-- x.insert(a, b) -/
theorem rc_insert {ds0 : List PyData} {p1 p2 p3 : Pos} (hN : Ix S.N i x) (hr0 : ρ[i]? = some (.ow ds0)) (hv : Vis S.sc x) (h : CI S true ρ [a, b] P.ex fun args ρ1 => ∃ (n : Int) (d : PyData), args = [.int n, d] ∧ ∃ ds, ρ1[i]? = some (.ow ds) ∧ 0 ≤ n ∧ n ≤ ds.length ∧ ds.length < 100000 ∧ ρ1.all noV = true ∧ RB S (ρ1.set i (.ow (ds.take n.toNat ++ [d] ++ ds.drop n.toNat))) rest P)
    (hd : (x == ("__debug__" : Str)) = false := by decide) (hcd : (x == ("__classdict__" : Str)) = false := by decide)
    (hfew : ∀ X : Cx, ((backTo p3 (starEach [a, b] X.env)).all (fun x => !x.1) && (backToKw p3 (keywordEach [] X.env)).all (fun x => x.1.isSome) && decide ([a, b].length + ([] : List Keyword).length + (if ([] : List Keyword).isEmpty then 0 else 1) < 30)) = true := by intro _; rfl)
    (hline : (p2.endLine == p3.line) = true := by rfl) (hse : ∀ X : Cx, starEach [a, b] X.env = (false, eval a X.env) :: starEach [b] X.env := by intro _; rfl)
    (hpl : ∀ X : Cx, (backTo p3 (starEach [b] X.env)).any (·.1) = false := by intro _; rfl) (hs : ∀ X : Cx, swapsWith (.Call (.Attribute (.Name x p1) "insert" p2) [a, b] [] p3) none pos.line X.env = pure false := by intro _; rfl) : RB S ρ (.Expr (.Call (.Attribute (.Name x p1) "insert" p2) [a, b] [] p3) pos :: rest) P :=
  rb_cons (rs_of (t := tDrop (tBM S.K "list" _ (tVar i) (wA S [a, b]))) (fun X hX => ps_expr (by
      rw [← hX.K]
      exact pe_bm PySem.F.plainAttrs_list PySem.F.slot_list_insert PySem.F.type_list_insert mt_insert (pe_var (by rw [hX.N]; exact hN.get) (by rw [hX.sc]; exact hv) hd hcd) (wA_pa hX) rfl (hfew X) hline (hse X) (hpl X)) (hs X)) fun C τ vs σ H D k l nvt m => by
    obtain ⟨v, ev, k1⟩ := k.alias (off_get (τ := τ) hr0) (by intro z; cases z)
    rw [l, List.getElem?_append_right (Nat.le_add_right _ _), Nat.add_sub_cancel_left] at ev
    refine ⟨v, ev, ?_, h C τ vs σ H k l (fun _ => nvt) _ (fun args ρ1 ws H1 z lw k2 => ?_) (fun c cv ρ' H' x hm k => m.ex c cv ρ' σ H' x hm k)⟩
    · have kd := k1.dt (d := .list ds0) rfl
      cases kd with
      | lst hs _ => exact .inl ⟨rfl, _, hs⟩
    · obtain ⟨n, d, rfl, ds, hr, n0, n1, nz, nv, q⟩ := z
      match ws, lw with
      | [w1, w2], _ =>
      have k2' : Ok S.K C (.im d :: .im (.int n) :: (τ ++ ρ1)) (some w2 :: some w1 :: (vs ++ σ)) H1 := k2
      have e3 := k2'.tail.int
      subst e3
      obtain ⟨B, G, fp, k3, hy⟩ := k2'.drop2.head
      obtain ⟨p, xs, e1, hp, hd, fin⟩ := k3.change (nv_all nvt nv) (off_get (τ := τ) hr)
      rw [l, List.getElem?_append_right (Nat.le_add_right _ _), Nat.add_sub_cancel_left, ev] at e1
      cases e1
      refine ⟨p, xs, n, w2, rfl, rfl, hp, Evl.sz_lt (by rw [hd.len]; exact nz), n0, by omega, m.nx _ σ _ q ?_⟩
      have k4 := fin _ _ (((hd.take n.toNat).app (.cons hy .nil)).app (hd.drop n.toNat))
      rw [off_set] at k4
      exact k4)
/-- an own list of two ints becomes the town -/
theorem rc_town {n m : Int} (i : Nat) (e : ρ[i]? = some (.ow [.int n, .int m])) (h0 : 0 ≤ n) (h : ∀ pt, RB S (ρ.set i (.rs (town pt))) rest P) : RB S ρ rest P := rb_town i e h0 h
end
end Kd

set_option Elab.async false
set_option linter.all false
set_option maxRecDepth 100000
/-! KeA: in, not in. -/
namespace Kd
open PySem L2 PySem.Spec PyProof.Rows
open Evl (Ex ex_l ex_t ex_rd fresh_back)
/-- == of flat data -/
def eqFl : PyData → PyData → Bool
  | .none, .none => true
  | .bool a, .bool b => a == b
  | .bool a, .int b => (if a then 1 else 0) == b
  | .int a, .bool b => a == (if b then 1 else 0)
  | .int a, .int b => a == b
  | .str a, .str b => a == b
  | _, _ => false
theorem eqFl_V {v w : V} {d e : PyData} (h : Fl v d) (k : Fl w e) : eqV v w = eqFl d e := by cases h <;> cases k <;> rfl
theorem Fl.flat {v : V} {d : PyData} (h : Fl v d) : flatV v = true := by cases h <;> rfl
theorem DtA.flats {K : PySem.W.Frag} {B : Hp} : ∀ {vs : List V} {ds : List PyData}, DtA K B vs ds → ds.all flatD = true → vs.all flatV = true ∧ ∀ {w : V} {e : PyData}, Fl w e → inV w vs = ds.any fun z => eqFl z e
  | _, _, .nil, _ => ⟨rfl, fun _ => rfl⟩
  | _, _, .cons h t, hf => by
    rw [List.all_cons, Bool.and_eq_true] at hf
    have f1 := Fl.of h hf.1
    obtain ⟨i1, i2⟩ := DtA.flats t hf.2
    refine ⟨by rw [List.all_cons, f1.flat, i1]; rfl, fun k => ?_⟩
    unfold inV
    rw [List.any_cons, List.any_cons, eqFl_V f1 k]
    congr 1
    exact i2 k
section
variable {S : Sh} {d : PyData} {ds : List PyData} {s2 : Sl}
theorem od_inF (hd : flatD d = true) (hs : ds.all flatD = true) (h2 : s2.dat (.list ds) ∨ s2.dat (.tuple ds)) : OD S (compareOp .In) (.im d) s2 (.im (.bool (ds.any fun z => eqFl z d))) := fun C l os v1 v2 H k Q q => by
  have f1 := Fl.of (k.tail.dt (d := d) rfl) hd
  have fin : ∀ p xs, v2 = .ref p → (SqL S.K H p xs ∨ SqT S.K H p xs) → DtA S.K H xs ds → wOp S (compareOp .In) v1 v2 H Q := fun p xs e hq hx => by
    obtain ⟨i1, i2⟩ := hx.flats hs
    refine ⟨rIn S.K false, fun X hX => by rw [← hX.K]; exact op_in_seq, p, xs, e, hq, f1.flat, i1, q _ _ ?_⟩
    rw [if_neg (by decide), i2 f1]
    exact k.tail.tail.flat (.bl _)
  rcases h2 with h | h
  · have z := k.dt h
    cases z with
    | lst hs hx => exact fin _ _ rfl (.inl hs) hx
  · have z := k.dt h
    cases z with
    | tup hs hx => exact fin _ _ rfl (.inr hs) hx
theorem od_ninF (hd : flatD d = true) (hs : ds.all flatD = true) (h2 : s2.dat (.list ds) ∨ s2.dat (.tuple ds)) : OD S (compareOp .NotIn) (.im d) s2 (.im (.bool (!ds.any fun z => eqFl z d))) := fun C l os v1 v2 H k Q q => by
  have f1 := Fl.of (k.tail.dt (d := d) rfl) hd
  have fin : ∀ p xs, v2 = .ref p → (SqL S.K H p xs ∨ SqT S.K H p xs) → DtA S.K H xs ds → wOp S (compareOp .NotIn) v1 v2 H Q := fun p xs e hq hx => by
    obtain ⟨i1, i2⟩ := hx.flats hs
    refine ⟨rIn S.K true, fun X hX => by rw [← hX.K]; exact op_notIn_seq, p, xs, e, hq, f1.flat, i1, q _ _ ?_⟩
    rw [if_pos rfl, i2 f1]
    exact k.tail.tail.flat (.bl _)
  rcases h2 with h | h
  · have z := k.dt h
    cases z with
    | lst hs hx => exact fin _ _ rfl (.inl hs) hx
  · have z := k.dt h
    cases z with
    | tup hs hx => exact fin _ _ rfl (.inr hs) hx
theorem od_inD {s1 : Sl} (h1 : s1.dat d) (h2 : s2.dat (.list ds)) (n1 : noDict d = true) (n2 : noDictA ds = true) (p1 : SeqAt.shaped d = true) (p2 : SeqAt.shaped (.list ds) = true) : OD S (compareOp .In) s1 s2 (.im (.bool (ds.any fun z => PyData.eqv z d))) := fun C l os v1 v2 H k Q q =>
  ⟨rInD S.K, fun X hX => by rw [← hX.K]; exact op_inD (by have := hX.room.un; omega), d, ds, Dt.dp _ _ n1 (k.tail.dt h1), Dt.dp (.list ds) _ n2 (k.dt h2), p1, p2, q _ _ (k.tail.tail.flat (.bl _))⟩
end
end Kd

set_option Elab.async false
set_option linter.all false
set_option maxRecDepth 100000
namespace Kd
open PySem L2 PySem.Spec PyProof.Rows
open Evl (Ex ex_l ex_t ex_rd fresh_back)
/-! ### lists that are data, put together; a number as a text -/
section
variable {S : Sh} {s1 s2 : Sl}
theorem op_catQ {X : Cx} : OpR X (binaryOp .Add) (fun x y H Q => ∃ l b xs zs, x = .ref l ∧ y = .ref b ∧ SqL X.K H l xs ∧ SqL X.K H b zs ∧ xs.length + zs.length ≤ sizeLine ∧ ∀ p, H p = none → Q (.ref p) (upd H p (.lst (xs ++ zs)))) := by
  intro pins s σ H x y v u Q I rx ry h
  obtain ⟨l, b, xs, zs, rfl, rfl, hl, hb, hz, q⟩ := h
  cases rx
  cases ry
  obtain ⟨its, r, ⟨⟨cls, dd, data, sl⟩, n, ho, hc, hdd, hd⟩, z1⟩ := I.list hl
  obtain ⟨its2, r2, ⟨⟨cls2, dd2, data2, sl2⟩, n2, ho2, hc2, hdd2, hd2⟩, z2⟩ := I.list hb
  simp only at hc hd hc2 hd2
  subst hc hd hc2 hd2
  have e1 := r.length
  have e2 := r2.length
  refine concat_meets ⟨_, ho, rfl⟩ ⟨_, ho2, rfl⟩ noFill_list_add seq_list_add PySem.F.slot_list_add PySem.F.entry_list_add (PySem.F.args_list_add_2 _ _) (list_addW l b its.toArray its2.toArray n n2 dd dd2 sl sl2 (by rw [List.size_toArray, List.size_toArray]; omega)) ⟨ho, ho2, ?_⟩
  rw [show its.toArray ++ its2.toArray = (its ++ its2).toArray by simp]
  exact ⟨.ref _, _, I.lnew (t' := s.toks) (r.append r2) (by rw [List.length_append]; omega), rfl, q _ I.fresh⟩
theorem items_ofB {K : PySem.W.Frag} {C : Cz} {l : List Sl} {os : List (Option V)} {v : V} {H B G : Hp} {fp : List Addr} {ds : List PyData} (k : OkB K C B G fp (s1 :: l) (some v :: os) H) (h1 : s1 = .im (.list ds) ∨ s1 = .al ds) :
    ∃ g p xs, OkB K C B G g l os H ∧ v = .ref p ∧ SqL K H p xs ∧ DtA K B xs ds := by
  obtain ⟨f, g, _, hs, k2⟩ := k.tail
  rcases h1 with rfl | rfl
  · obtain ⟨_, w, e, hd⟩ := hs
    cases e
    cases hd with
    | lst hs ha => exact ⟨g, _, _, k2, rfl, ex_l (fun a o h => k2.h a o (k2.g a o h)) hs, ha⟩
  · obtain ⟨_, p, xs, e1, h1, z⟩ := hs
    cases e1
    exact ⟨g, p, xs, k2, rfl, .inl (.inl (k2.h _ _ h1)), z⟩
theorem od_catQ {d1 d2 : List PyData} (h1 : s1 = .im (.list d1) ∨ s1 = .al d1 ∨ s1 = .ow d1) (h2 : s2 = .im (.list d2) ∨ s2 = .al d2 ∨ s2 = .ow d2) (hz : d1.length + d2.length ≤ 100000) : OD S (binaryOp .Add) s1 s2 (.ow (d1 ++ d2)) := fun C l os v1 v2 H k Q q => by
  have k1 : ∃ t1 t2, (t1 = .im (.list d1) ∨ t1 = .al d1) ∧ (t2 = .im (.list d2) ∨ t2 = .al d2) ∧ Ok S.K C (t2 :: t1 :: l) (some v2 :: some v1 :: os) H := by
    have k0 : ∃ t2, (t2 = .im (.list d2) ∨ t2 = .al d2) ∧ Ok S.K C (t2 :: s1 :: l) (some v2 :: some v1 :: os) H := by
      rcases h2 with rfl | rfl | rfl
      · exact ⟨_, .inl rfl, k⟩
      · exact ⟨_, .inr rfl, k⟩
      · exact ⟨_, .inr rfl, k.toAl⟩
    obtain ⟨t2, g2, k0⟩ := k0
    rcases h1 with rfl | rfl | rfl
    · exact ⟨_, t2, .inl rfl, g2, k0⟩
    · exact ⟨_, t2, .inr rfl, g2, k0⟩
    · exact ⟨_, t2, .inr rfl, g2, k0.swap.toAl.swap⟩
  obtain ⟨t1, t2, g1, g2, B, G, fp, k2⟩ := k1
  obtain ⟨f2, p2, ys, k3, rfl, hs2, hd2⟩ := items_ofB k2 g2
  obtain ⟨f1, p1, xs, k4, rfl, hs1, hd1⟩ := items_ofB k3 g1
  have l1 := hd1.len
  have l2 := hd2.len
  refine ⟨fun x y H Q => ∃ l b xs zs, x = .ref l ∧ y = .ref b ∧ SqL S.K H l xs ∧ SqL S.K H b zs ∧ xs.length + zs.length ≤ sizeLine ∧ ∀ p, H p = none → Q (.ref p) (upd H p (.lst (xs ++ zs))), fun X hX => by rw [← hX.K]; exact op_catQ, p1, p2, xs, ys, rfl, rfl, hs1, hs2, Evl.sz_of (by omega), fun t ht => q _ _ (k4.putOwn ht (hd1.app hd2))⟩
theorem cd_strI {i : Int} (h : i.natAbs.log2 < 1920) : CD S (.type "str") [.im (.int i)] (.im (.str (toString i))) :=
  cd_of1 (fun X _ => call_str_int) fun C l os v H k Q q => by
    have q1 := k.int
    subst q1
    exact ⟨i, rfl, h, q _ _ (k.tail.flat (.str _))⟩
end
end Kd

set_option Elab.async false
set_option linter.all false
set_option maxRecDepth 100000
/-! KeC: defs with parameters that are written by name. -/
namespace Kd
open PySem L2 PySem.Spec PyProof.Rows
open Evl (Ex ex_l ex_t ex_rd fresh_back)
theorem fn_run {M : Md} {x qual : Str} {st : Stmt} {f : Addr} {fd : FuncData} {N ps : List Str} {k : Nat} {G : List PyData → Oc → Prop} (F : Fun M.K x qual st f fd) (sc : FnScope N ps (defScope st)) (len : ∀ ds o, G ds o → ds.length = ps.length)
    (body : ∀ E ds o, G ds o → RB (M.sh N (defScope st) k E) (slots N.length ds) (defBody st) (Pst.of o)) : FnOk M.P M.w M.K M.mg M.base (L2N.CX M.P M.w) (k + 1) f fd ps (spG M.K M.mg G) := by
  refine F.okN sc (fun vs H Q E h => ?_) (fun cdv A outer s H vs Q E hr h => ?_)
  · obtain ⟨B, ds, o, hG, _, hd, _⟩ := h
    rw [hd.len]
    exact len ds o hG
  · obtain ⟨B, ds, o, hG, hB, hd, q⟩ := h
    refine ⟨wB (M.sh N (defScope st) k E) (defBody st), wB_pss ⟨rfl, rfl, rfl, rfl, rfl, rfl, rfl, rfl, hr, L2N.takes_of rfl rfl rfl rfl, passes_of rfl, fun _ _ => rfl, fun _ => ⟨rfl, rfl⟩⟩, ?_⟩
    have k0 : Ok M.K ⟨B, H, []⟩ (slots N.length ds) (L2.start N vs) H := by
      refine ⟨B, B, [], Ex.refl _, Ex.refl _, hB, fun a o q _ => q, fun a o q => .inl q, fun a q => q, List.nodup_nil, fun p hp => absurd hp List.not_mem_nil, ?_⟩
      unfold slots L2.start
      rw [hd.len]
      exact Sls.ofData hd (Sls.ofNo _)
    refine body E ds o hG ⟨B, H, []⟩ [] [] (L2.start N vs) H _ k0 rfl (fun _ z => nomatch z) ⟨fun ρ σ H' e k1 => ?_, fun r ρ v σ H' e k1 => ?_, fun _ _ _ e => e.elim, fun _ _ _ e => e.elim, fun c cv ρ σ H' e hc k1 => ?_⟩
    · have e' : o = .ret .none := e
      subst e'
      obtain ⟨B', G', fp', k2⟩ := k1
      exact q .non H' B' k2.b k2.bh (fun a x z => k2.e a x z (fun y => nomatch y)) k2.n .non
    · obtain ⟨d, e1, e2⟩ := e
      subst e1 e2
      obtain ⟨B', G', fp', k2, hd'⟩ := k1.head
      exact q v H' B' k2.b k2.bh (fun a x z => k2.e a x z (fun y => nomatch y)) k2.n hd'
    · have e' : o = .exc c := e
      subst e'
      obtain ⟨B', G', fp', k2⟩ := k1
      exact q H' cv (fun a x z => k2.e a x z (fun y => nomatch y)) hc
/-- a def, the last parameters of which are written by name -/
def DefK (M : Md) (x : Str) (st : Stmt) (ps : List Str) (n : Nat) (ks : List Str) : Prop := ∃ f fd, Fun M.K x x st f fd ∧ M.mg x = some (.ref f) ∧ KBn M.K fd ps n ks (fun us ws => us ++ ws) (fun vs zs => vs ++ zs)
theorem defk_mk {M : Md} {h : Heap} {x : Str} {st : Stmt} {ps : List Str} {n : Nat} {ks : List Str} {f : Addr} {oc : Value} {od an : Option Addr} {sl : Array (Option Value)} {kV dc pm cd ct : Value} (X : M.K.In h) (G : h.Ns mainGlobals M.mg)
    (a : PySem.W.nsIn M.K mainGlobals x = some (some (.ref f))) (l : M.K.lookup f = some ⟨oc, od, .func (PySem.W.fnOf x x (defArgs st) (defBody st) (defScope st) .none kV dc pm an cd ct), sl⟩) (c : PySem.W.codeIn M.K cd x = true) (k : PySem.W.keepIn M.K (.ref f) = true)
    (hb : ∀ (kV doc pm : Value) (an : Option Addr) (cdv ct : Value) (us ws : List Value), us.length = n → ws.length = ks.length → bindArgs (PySem.W.fnOf x x (defArgs st) (defBody st) (defScope st) .none kV doc pm an cdv ct) ⟨us, ks.zip ws⟩ = pure (ps.zip (us ++ ws))) : DefK M x st ps n ks :=
  ⟨f, _, fun_mk l c k, PySem.W.mg_of X G a, fun s us ws _ l1 l2 => .of_eq (hb kV dc pm an cd ct us ws l1 l2), fun r1 r2 => r1.append r2⟩
def FnK (M : Md) (k : Nat) (x : Str) (n : Nat) (ks : List Str) (G : List PyData → Oc → Prop) : Prop :=
  ∃ f fd ps, FnOk M.P M.w M.K M.mg M.base (L2N.CX M.P M.w) k f fd ps (spG M.K M.mg G) ∧ M.mg x = some (.ref f) ∧ PySem.W.keepIn M.K (.ref f) = true ∧ KBn M.K fd ps n ks (fun us ws => us ++ ws) (fun vs zs => vs ++ zs)
theorem fnk_ok {M : Md} {x qual : Str} {st : Stmt} {f : Addr} {fd : FuncData} {N ps : List Str} {k n : Nat} {ks : List Str} {G : List PyData → Oc → Prop} (F : Fun M.K x qual st f fd) (hm : M.mg x = some (.ref f)) (hb : KBn M.K fd ps n ks (fun us ws => us ++ ws) (fun vs zs => vs ++ zs)) (sc : FnScope N ps (defScope st)) (len : ∀ ds o, G ds o → ds.length = ps.length)
    (body : ∀ E ds o, G ds o → RB (M.sh N (defScope st) k E) (slots N.length ds) (defBody st) (Pst.of o)) : FnK M (k + 1) x n ks G := ⟨f, fd, ps, fn_run F sc len body, hm, F.kp, hb⟩
theorem Ok.dropA {K : PySem.W.Frag} {C : Cz} {H : Hp} : ∀ {a l : List Sl} {b os : List (Option V)}, a.length = b.length → Ok K C (a ++ l) (b ++ os) H → Ok K C l os H
  | [], _, [], _, _, k => k
  | _ :: a, _, _ :: b, _, e, k => Ok.dropA (a := a) (b := b) (Nat.succ.inj e) k.tail
section
variable {S : Sh} {fl : Bool} {ρ : List Sl} {e v : Expr} {es : List Expr} {pos p kpos : Pos} {X : Str → Prop} {Q : Sl → List Sl → Prop}
/-- f(e, .., k = v) -/
theorem ce_callK {x kn : Str} {k n : Nat} {G : List PyData → Oc → Prop} (hF : FnK S.toMd k x n [kn] G)
    (h : CI S fl ρ (e :: es) X fun ds ρ1 => ds.length = n ∧ CE S false ρ1 v X fun r ρ2 => ImK r fun d => CallG G (ds ++ [d]) (fun d' => Q (.im d') ρ2) X) (hk : k ≤ S.k := by walk_at "kd lvl") (hg : S.sc.names.lookup x = some .globalImplicit := by rfl)
    (hdb : (x == ("__debug__" : Str)) = false := by decide)
    (he : ∀ X : Cx, starEach (e :: es) X.env = (false, eval e X.env) :: starEach es X.env := by intro _; rfl) (hpl : ∀ X : Cx, ((backTo pos (starEach (e :: es) X.env)).any (·.1) || (backToKw pos (keywordEach [⟨some kn, v, kpos⟩] X.env)).any (·.1.isNone)) = false := by intro _; rfl) :
    CE S fl ρ (.Call (.Name x p) (e :: es) [⟨some kn, v, kpos⟩] pos) X Q := by
  obtain ⟨f, fd, ps, F, hm, hkp, hb⟩ := hF
  intro C τ vs σ H kk l nv QQ qq xx
  refine ⟨tCallN n 1 (spG S.K S.mg G) (fun vs zs => vs ++ zs) S.E (wA S (e :: es)) (tCons (wE S v) tNil), fun X hX => ?_, h C τ vs σ H kk l nv _ (fun ds ρ1 ws H1 z lw k1 => ?_) xx⟩
  · refine pe_callN (CX := L2N.CX S.P S.w) (k := k) (f := f) (fd := fd) (ps := ps) (ks := [kn]) ?_ (hX.room.mono hk) (by show X.env.scope.names.lookup x = _; rw [hX.sc]; exact hg) (by rw [hX.mg]; exact hm) (by rw [hX.K]; exact hkp) (by rw [hX.K]; exact hb) (pass_S hX) (wA_pa hX) (pk_cons (wE_pe hX) pk_nil) rfl rfl hdb (he X) (hpl X)
    rw [hX.prog, hX.w, hX.K, hX.mg, hX.base]
    exact F
  · obtain ⟨hn, z⟩ := z
    have ll : (ds.map Sl.im).reverse.length = (ws.reverse.map some).length := by rw [List.length_reverse, List.length_map, List.length_map, List.length_reverse, lw]
    refine z C ((ds.map Sl.im).reverse ++ τ) (ws.reverse.map some ++ vs) σ H1 (by rw [List.append_assoc, List.append_assoc]; exact k1) (by rw [List.length_append, List.length_append, ll, l]) (fun z => nomatch z) _ (fun r ρ2 w H2 z2 k2 => ?_) (fun c cv ρ' H' hx m k3 => xx c cv ρ' H' hx m (by rw [List.append_assoc, List.append_assoc] at k3; exact k3.dropA ll))
    refine ⟨lw.trans hn, rfl, ?_⟩
    have fin : ∀ d, Ok S.K C (.im d :: ((ds.map Sl.im).reverse ++ τ ++ ρ2)) (some w :: (ws.reverse.map some ++ vs ++ σ)) H2 → CallG G (ds ++ [d]) (fun d' => Q (.im d') ρ2) X → spG S.K S.mg G (ws ++ [w]) H2 QQ S.E := fun d k3 hG => by
      have k4 : Ok S.K C (((ds ++ [d]).map Sl.im).reverse ++ (τ ++ ρ2)) ((ws ++ [w]).reverse.map some ++ (vs ++ σ)) H2 := by
        rw [List.map_append, List.reverse_append, List.reverse_append]
        rw [List.append_assoc, List.append_assoc] at k3
        exact k3
      obtain ⟨B, G', fp, k5, hd⟩ := k4.rev (by rw [List.length_append, List.length_append, lw]; rfl)
      obtain ⟨oc, hG, h3⟩ := hG
      cases oc with
      | ret d' =>
        refine ⟨B, _, .ret d', hG, k5.bh, hd, fun v H' B' b h e n hv => qq _ _ v H' h3 ?_⟩
        obtain ⟨G', k6⟩ := k5.back b h e n
        exact k6.put hv
      | exc c =>
        exact ⟨B, _, .exc c, hG, k5.bh, hd, fun H' cv e m => xx c cv ρ2 H' h3 m ⟨B, G', fp, k5.grow e⟩⟩
    rcases z2 with ⟨d, rfl, hd⟩ | ⟨ds', rfl, hd⟩
    · exact fin d k2 hd
    · exact fin _ k2.freeze hd
end
end Kd

set_option Elab.async false
set_option linter.all false
set_option maxRecDepth 100000
/-! KeD: tuples of numbers in order; the least of a list. -/
namespace Kd
open PySem L2 PySem.Spec PyProof.Rows
open Evl (Ex ex_l ex_t ex_rd fresh_back)
section
variable {S : Sh} {s1 s2 : Sl}
theorem od_ltT {ns ms : List Int} : OD S (compareOp .Lt) (.im (.tuple (ns.map .int))) (.im (.tuple (ms.map .int))) (.im (.bool (HT.lexLt ns ms))) := fun C l os v1 v2 H k Q q => by
  obtain ⟨B, G, fp, k3, h1, h2⟩ := Ok.two k
  obtain ⟨f1, g1, _, _, k4⟩ := k3.tail
  obtain ⟨f2, g2, _, _, k5⟩ := k4.tail
  cases h1 with
  | @tup a xs _ hs ha =>
    cases h2 with
    | @tup b ys _ ht hb =>
      have e1 := ha.ints
      have e2 := hb.ints
      subst e1 e2
      exact ⟨rLtT S.K, fun X hX => by rw [← hX.K]; exact op_ltT (by have := hX.room.units; omega), a, b, ns, ms, rfl, rfl, ex_t k3.bh hs, ex_t k3.bh ht, q _ _ (k5.put (.bl _))⟩
theorem vals_at : ∀ {vs : List V} {us : List Value} {i : Nat} {u : Value}, Vals vs us → us[i]? = some u → ∃ v, vs[i]? = some v ∧ RelV v u
  | _, _, 0, u, .cons r t, h => by
    cases h
    exact ⟨_, rfl, r⟩
  | _, _, i + 1, u, .cons r t, h => vals_at (i := i) t h
  | _, _, i, u, .nil, h => by simp at h
def rMinP (K : PySem.W.Frag) : List V → Hp → VK → Prop := fun xs H Q => ∃ (a : Addr) (vs : List V) (d : PyData) (ds : List PyData), xs = [.ref a] ∧ SqL K H a vs ∧ DpAll K H vs (d :: ds) ∧ PySem.W.AlikeAll (d :: ds) ∧ PyData.depthAll (d :: ds) ≤ 50 ∧
  ∀ (i : Nat) v, vs[i]? = some v → (d :: ds)[i]? = some (PySem.W.minD d ds) → Q v H
theorem call_minP {X : Cx} (hc : X.calm = true) (hr : X.A.units + 64 < cLine) : CallR X (.builtin "min") (rMinP X.K) := by
  intro pins s σ H xs us Q I r h
  obtain ⟨a, vs, d, ds, rfl, hs, hd, ha, hdp, q⟩ := h
  rw [Vals.ref1 r]
  obtain ⟨its, rv, pl, _⟩ := I.list hs
  obtain ⟨as, hra⟩ := Dp.readsAll I _ _ its hd rv
  refine PySem.W.min_list_data (I.ok.hd hc) pl.isList (x := d) (xs := ds) (as := as) (by simpa using hra) ha (by omega) fun i v h' tk bs hv hrd hk => ?_
  have hv' : its[i]? = some v := by simpa using hv
  obtain ⟨bs2, r2, hi, _, _⟩ := PySem.W.readsAll_at hra i v hv'
  have e := (reads_det (fun b o z _ => hk b o z) r2 hrd).1
  obtain ⟨x, hx, rx⟩ := vals_at rv hv'
  refine ⟨x, H, I.kept hk, rx, q i x hx ?_⟩
  rw [e, List.getD_eq_getElem?_getD, List.getElem?_eq_getElem hi]
  rfl
theorem DtA.at {K : PySem.W.Frag} {H : Hp} : ∀ {vs : List V} {ds : List PyData} {i : Nat} {v : V} {d : PyData}, DtA K H vs ds → vs[i]? = some v → ds[i]? = some d → Dt K H v d
  | _, _, 0, _, _, .cons r t, h, h2 => by
    cases h
    cases h2
    exact r
  | _, _, i + 1, _, _, .cons r t, h, h2 => DtA.at (i := i) t h h2
  | _, _, i, _, _, .nil, h, _ => by simp at h
theorem cd_minP {d m : PyData} {ds : List PyData} (h1 : s1 = .im (.list (d :: ds)) ∨ s1 = .al (d :: ds) ∨ s1 = .ow (d :: ds)) (n : noDictA (d :: ds) = true) (ha : PySem.W.AlikeAll (d :: ds)) (hdp : PyData.depthAll (d :: ds) ≤ 50) (hm : PySem.W.minD d ds = m) : CD S (.builtin "min") [s1] (.im m) :=
  cd_of1 (r := rMinP S.K) (fun X hX => by rw [← hX.K]; exact call_minP hX.calm hX.room.units) fun C l os v H k Q q => by
    obtain ⟨B, G, fp, p, xs, k2, rfl, hs, hd⟩ := items_of k h1
    refine ⟨p, xs, d, ds, rfl, hs, DtA.dp _ _ n (hd.up k2.bh), ha, hdp, fun i v hv hi => ?_⟩
    rw [hm] at hi
    exact q _ _ (k2.put (hd.at hv hi))
/-! pairs of numbers -/
def pairD (q : Int × Int) : PyData := .tuple [.int q.1, .int q.2]
def pairLt (q r : Int × Int) : Bool := decide (q.1 < r.1 ∨ (q.1 = r.1 ∧ q.2 < r.2))
theorem dataLt_pair (q r : Int × Int) : PySem.W.dataLt (pairD q) (pairD r) = pairLt q r := by
  obtain ⟨a, b⟩ := q
  obtain ⟨c, d⟩ := r
  unfold pairD pairLt
  rw [PySem.W.dataLt_tuple]
  simp only [PySem.W.keyToks, PySem.W.keyToksAll, List.cons_append, List.nil_append]
  have s := @lex_self itemOrd
  have f := @lex_diff itemOrd
  have eq : ∀ x y : Int, x ≠ y → (Sum.inl x : Int ⊕ List Nat) ≠ Sum.inl y := fun x y h e => h (Sum.inl.inj e)
  rw [s (Sum.inl 1)]
  by_cases h : a = c
  · subst h
    rw [s (Sum.inl a), s (Sum.inl 1)]
    by_cases h2 : b = d
    · subst h2
      rw [s (Sum.inl b), s (Sum.inl 0)]
      simp
      rfl
    · rw [f (eq _ _ h2)]
      show decide (b < d) = _
      simp
  · rw [f (eq _ _ h)]
    show decide (a < c) = _
    simp [h]
end
section
variable {S : Sh} {ρ : List Sl} {tg it elt : Expr} {pos : Pos} {Q : Sl → List Sl → Prop} {X : Str → Prop} {α : Type}
/-- [draws for x in xs] -/
theorem ce_drawsX (own : List (Str × Nat)) {sc : Scope} {xs : List α} {inj : α → PyData} (R : PyData → Prop) (hw : IX S ρ tg it (xs.map inj))
    (hb : ∀ x ∈ xs, CB (S.blk sc) ρ own tg (inj x) fun ρ2 => CE (S.blk sc) true ρ2 elt (fun _ => False) fun r ρ' => ρ' = ρ2 ∧ ImK r R) (hz : xs.length ≤ 100000)
    (q : ∀ acc, acc.length = xs.length → (∀ d ∈ acc, R d) → Q (.im (.list acc)) ρ) (ok : BlkOk S.N S.sc sc own := by walk_at "kd blk") (hnd : S.N.Nodup := by walk_at "kd nd") (hno : noAt ρ own = true := by rfl)
    (hfs : ∀ (X : Cx) x, foldedSetIterable it X.env x = pure x := by intro _ _; rfl) :
    CE S true ρ (.ListComp elt [⟨tg, it, [], 0⟩] sc pos) X Q := by
  refine ce_er (P := fun d => ∃ acc, d = .list acc ∧ acc.length = xs.length ∧ ∀ d ∈ acc, R d) (er_lc own (ir_of hw) (fun n i acc => ∀ d ∈ acc, R d) (fun n _ d z => nomatch z) (fun n z => by rw [z, List.length_map]; exact hz) ok hnd (noAt_ok hno) (fun n i acc hn hi hl hI => ?_) (fun n acc hn hl hI => ⟨acc, rfl, by rw [hl, hn, List.length_map], hI⟩) hfs) (fun d z => ?_)
  · rw [hn, List.length_map] at hi
    obtain ⟨ρ2, ix, h1, h2, h3, h4⟩ := hb xs[i] (List.getElem_mem hi)
    have e : (xs.map inj).getD i .none = inj xs[i] := by
      rw [List.getD_eq_getElem?_getD, List.getElem?_map, List.getElem?_eq_getElem hi]
      rfl
    refine ⟨ρ2, ix, h2, h3, by rw [e]; exact h1, er_imp (er_ce h4) fun d hd x hx => ?_⟩
    rcases List.mem_append.mp hx with z | z
    · exact hI x z
    · rw [List.mem_singleton] at z
      subst z
      exact hd
  · obtain ⟨acc, rfl, h1, h2⟩ := z
    exact q acc h1 h2
end
end Kd

set_option Elab.async false
set_option linter.all false
set_option maxRecDepth 100000
/-! KeE: () * n; bits of numbers; startswith. -/
namespace Kd
open PySem L2 PySem.Spec PyProof.Rows
open Evl (Ex ex_l ex_t ex_rd fresh_back)
section
variable {S : Sh} {s1 s2 : Sl}
theorem tuple_mulE (l : Addr) (n : Nat) (dd : Option Addr) (sl : Array (Option Value)) (x : Int) (u : Tok) (c0 : (decide (x < -(2 ^ 63)) || decide (x ≥ 2 ^ 63)) = false) :
    Meets (Builtin.«tuple.__mul__» ⟨[.ref l, .int x u], []⟩) (fun _ R s => s.heap.get? l = some { cls := .type "tuple", dict := dd, data := .seq #[] n, slots := sl } ∧ R (.ok (.ret (Value.ref l))) s) :=
  .of_wp fun prog w A R s h => by
    obtain ⟨hp, g, d, tk, os⟩ := s
    obtain ⟨hl, h⟩ := h
    have f1 := AutoSeq1.idx_int
    wp_walk using wpAny_loadPart' hl
    repeat (first
      | (refine wpAny_ite_false (decide_eq_false (by rw [c0]; exact Bool.false_ne_true)) ?_; wp_walk using wpAny_loadPart' hl)
      | (refine wpAny_ite_true (by simp) ?_; wp_walk using wpAny_loadPart' hl))
    exact ⟨_, rfl, h⟩
def rRepE (K : PySem.W.Frag) : R2 := fun x y H Q => ∃ l k, x = .ref l ∧ y = .int k ∧ SqT K H l [] ∧ -1000000 ≤ k ∧ k ≤ 1000000 ∧ Q (.ref l) H
theorem op_repE {X : Cx} : OpR X (binaryOp .Mult) (rRepE X.K) := by
  intro pins s σ H x y v u Q I rx ry h
  obtain ⟨l, k, rfl, rfl, hT, h1, h2, q⟩ := h
  cases rx
  obtain ⟨t, rfl⟩ := ry
  obtain ⟨its, r, ⟨⟨cls, dd, data, sl⟩, ho, hc, n, hd⟩, hs⟩ := I.tuple hT
  simp only at hc hd
  subst hc hd
  cases r
  exact wpAny_binaryOp_repeat_ref (T := "tuple") (U := "int") (by decide) ⟨_, ho, rfl⟩ (fun s' => typeIs_int s' k t) noFill_tuple_mul F.fills_int_mul F.slot_int_rmul repeat_tuple F.slot_int_index.lookup
    (call_meets F.slot_int_rmul (typeIs_int s k t) F.entry_int_rmul (F.args_int_rmul_2 _ _) (int_rmul_tuple k t l #[] n dd sl)
      ⟨ho, rfl, ⟨_, ho, rfl⟩, call_meets F.slot_tuple_mul ⟨_, ho, rfl⟩ F.entry_tuple_mul (F.args_tuple_mul_2 _ _) (tuple_mulE l n dd sl k t (by rw [decide_eq_false (by omega), decide_eq_false (by omega)] <;> rfl)) ⟨ho, ⟨.ref l, H, I, rfl, q⟩⟩⟩)
theorem od_repE {k : Int} (h1 : -1000000 ≤ k) (h2 : k ≤ 1000000) : OD S (binaryOp .Mult) (.im (.tuple [])) (.im (.int k)) (.im (.tuple [])) := fun C l os v1 v2 H kk Q q => by
  have e2 := kk.int
  subst e2
  obtain ⟨B, G, fp, k2, hd⟩ := kk.tail.head
  cases hd with
  | @tup a xs _ hs ha =>
    cases ha
    exact ⟨rRepE S.K, fun X hX => by rw [← hX.K]; exact op_repE, a, k, rfl, rfl, ex_t k2.bh hs, h1, h2, q _ _ (k2.put (.tup hs .nil))⟩
theorem od_repI {ns : List Int} {k : Int} (h0 : 0 ≤ k) (hk : k ≤ 1000000) (hz : (ns.length : Int) * k ≤ 1000000) : OD S (binaryOp .Mult) (.im (.tuple (ns.map .int))) (.im (.int k)) (.im (.tuple ((List.replicate k.toNat ns).flatten.map .int))) := by
  cases ns with
  | nil =>
    have : (List.replicate k.toNat ([] : List Int)).flatten = [] := by simp
    rw [this]
    exact od_repE (by omega) hk
  | cons n ns =>
    have := od_repT (S := S) (ds := (n :: ns).map .int) (k := k) (by simp) (by omega) (by rw [List.length_map]; exact hz)
    rw [List.map_flatten, List.map_replicate]
    exact this
theorem od_andM {i : Int} {k : Nat} : OD S (binaryOp .BitAnd) (.im (.int i)) (.im (.int (2 ^ k - 1))) (.im (.int (i % 2 ^ k))) := fun C l os v1 v2 H kk Q q => by
  have e2 := kk.int
  have e1 := kk.tail.int
  subst e1 e2
  exact ⟨_, fun X _ => op_andM, i, k, rfl, rfl, q _ _ (kk.tail.tail.flat (.int _))⟩
end
section
variable {S : Sh} {fl : Bool} {ρ : List Sl} {o e : Expr} {pos apos : Pos} {X : Str → Prop} {Q : Sl → List Sl → Prop}
theorem ce_starts {y : Str} (hy : y = "startswith") (h : CE S fl ρ o X fun s1 ρ1 => StK s1 fun x => CE S fl ρ1 e X fun s2 ρ2 => StK s2 fun z => Q (.im (.bool (Txt.startswith x z))) ρ2)
    (hse : ∀ X : Cx, starEach [e] X.env = [(false, eval e X.env)] := by intro _; rfl) (hbase : ∀ X : Cx, attributeBase o "startswith" X.env (eval o X.env) = eval o X.env := by intro _; rfl) (hline : (apos.endLine == pos.line) = true := by rfl) :
    CE S fl ρ (.Call (.Attribute o y apos) [e] [] pos) X Q := by
  subst hy
  exact fun C τ vs σ H k l nv QQ qq xx =>
  ⟨tM1 (fun x xs H Q => ∃ a b, x = .str a ∧ xs = [.str b] ∧ Q (.bl (Txt.startswith a b)) H) (wE S o) (wE S e),
    fun X hX => pe_m1 F.slot_str_startswith F.type_str_startswith mt_startswith (wE_pe hX) (wE_pe hX) (hse X) (hbase X) hline, h C τ vs σ H k l nv _ (fun s1 ρ1 v1 H1 h1 k1 => by
      obtain ⟨x, rfl, h1⟩ := h1
      have q1 := k1.str
      subst q1
      refine ⟨⟨x, rfl⟩, h1 C τ vs σ H1 k1.tail l nv _ (fun s2 ρ2 v2 H2 z k2 => ?_) xx⟩
      obtain ⟨z, rfl, q⟩ := z
      have q2 := k2.str
      subst q2
      exact ⟨x, z, rfl, rfl, qq _ _ _ _ q (k2.tail.flat (.bl _))⟩) xx⟩
end
end Kd

set_option Elab.async false
set_option linter.all false
set_option maxRecDepth 100000
/-! KeF: dicts that are data: subscripts, in, walks. -/
namespace Kd
open PySem L2 PySem.Spec PyProof.Rows
open Evl (Ex ex_l ex_t ex_rd fresh_back)
theorem ix_dct {X : Cx} (hu : X.A.units + 1 < cLine) : IxR X (fun x y H Q => ∃ a v, x = .ref a ∧ DGet H a y (some v) ∧ Q v H) := by
  intro value slice pins s σ H x y v u Q I rx ry h hs
  obtain ⟨a, w, rfl, g, q⟩ := h
  cases rx
  have hT := dict_typeIs I g
  unfold subscriptTail
  refine wpAny_bind ?_
  rw [getitemInPython_of_ne hT.not_modules]
  refine wpAny_bind (wpAny_specialOf hT PySem.F.slot_dict_getitem.lookup ?_)
  have fin : wpAny (model X.prog X.w) X.A (subscripted slice false (.ref a) u) (fun r s₃ => wpAny (model X.prog X.w) X.A (letTemporaryGo value (.ref a) r >>= fun _ => pure r) (EP X pins σ Q) X.xe s₃) X.xe s := by
    rw [hs]
    exact wpAny_operating (d_getItem hu I g ry fun w' s3 I3 rw' => wpAny_bind (wpAny_letTemporaryGo (wpAny_pure ⟨w, H, I3, rw', q⟩)))
  first
    | exact wpAny_pure (wpAny_bind fin)
    | exact wpAny_bind (wpAny_pure (wpAny_bind fin))
    | exact wpAny_bind fin
theorem op_inDc {X : Cx} (hu : X.A.units + 1 < cLine) : OpR X (compareOp .In) (fun y x H Q => ∃ a o, x = .ref a ∧ DGet H a y o ∧ Q (.bl o.isSome) H) := fun pins s σ H y x v u Q I ry rx ⟨a, o, ex, g, q⟩ => by
  subst ex
  cases rx
  exact d_in hu I g ry fun s3 I3 => ⟨.bl o.isSome, H, I3, rfl, q⟩
theorem op_ninDc {X : Cx} (hu : X.A.units + 1 < cLine) : OpR X (compareOp .NotIn) (fun y x H Q => ∃ a o, x = .ref a ∧ DGet H a y o ∧ Q (.bl (!o.isSome)) H) := fun pins s σ H y x v u Q I ry rx ⟨a, o, ex, g, q⟩ => by
  subst ex
  cases rx
  exact d_notIn hu I g ry fun s3 I3 => ⟨.bl (!o.isSome), H, I3, rfl, q⟩
/-- a dict's data -/
def dctD (l : List (Key × PyData)) : PyData := .dict (l.map fun q => (kD q.1, q.2))
def valP (l : List (Key × PyData)) (k : Key) : Option PyData := (l.find? fun q => decide (q.1 = k)).map (·.2)
theorem kD_inj {a b : Key} (e : kD a = kD b) : a = b := by
  cases a <;> cases b <;> cases e <;> rfl
theorem DtK.keys {K : PySem.W.Frag} {H : Hp} : ∀ {l : List (Key × PyData)} {kvs : List (Key × V)}, DtK K H kvs (l.map fun q => (kD q.1, q.2)) → kvs.map (·.1) = l.map (·.1)
  | [], _, h => by
    generalize e : List.map (fun q : Key × PyData => (kD q.1, q.2)) [] = m at h
    cases h with
    | nil => rfl
    | cons _ _ => cases e
  | (k, d) :: l, kvs, h => by
    generalize e : List.map (fun q : Key × PyData => (kD q.1, q.2)) ((k, d) :: l) = m at h
    cases h with
    | nil => cases e
    | @cons k' v vs d' ds h1 h2 =>
      rw [List.map_cons] at e
      injection e with e1 e2
      injection e1 with e3 e4
      have := kD_inj e3
      subst this e2
      rw [List.map_cons, List.map_cons, DtK.keys h2]
theorem DtK.val {K : PySem.W.Frag} {H : Hp} {k : Key} : ∀ {l : List (Key × PyData)} {kvs : List (Key × V)}, DtK K H kvs (l.map fun q => (kD q.1, q.2)) → (∀ d, valP l k = some d → ∃ v, valV kvs k = some v ∧ Dt K H v d) ∧ (valP l k).isSome = (valV kvs k).isSome
  | [], _, h => by
    generalize e : List.map (fun q : Key × PyData => (kD q.1, q.2)) [] = m at h
    cases h with
    | nil => exact ⟨fun d z => (nomatch z), rfl⟩
    | cons _ _ => cases e
  | (k1, d1) :: l, kvs, h => by
    generalize e : List.map (fun q : Key × PyData => (kD q.1, q.2)) ((k1, d1) :: l) = m at h
    cases h with
    | nil => cases e
    | @cons k' v vs d' ds h1 h2 =>
      rw [List.map_cons] at e
      injection e with e1 e2
      injection e1 with e3 e4
      have := kD_inj e3
      subst this e2 e4
      by_cases hk : k1 = k
      · subst hk
        have a1 : valP ((k1, d1) :: l) k1 = some d1 := by simp [valP]
        have a2 : valV ((k1, v) :: vs) k1 = some v := by simp [valV]
        rw [a1, a2]
        exact ⟨fun d z => by cases z; exact ⟨v, rfl, h1⟩, rfl⟩
      · have a1 : valP ((k1, d1) :: l) k = valP l k := by simp [valP, hk]
        have a2 : valV ((k1, v) :: vs) k = valV vs k := by simp [valV, hk]
        rw [a1, a2]
        exact DtK.val h2
section
variable {S : Sh} {ρ : List Sl} {tg e : Expr}
theorem Ok.kd {K : PySem.W.Frag} {C : Cz} {l : List Sl} {os : List (Option V)} {v : V} {H : Hp} {k : Key} (h : Ok K C (.im (kD k) :: l) (some v :: os) H) : v = kV k := by
  cases k with
  | inl i => exact h.int
  | inr x => exact h.str
theorem xd_dct {l : List (Key × PyData)} {k : Key} {d : PyData} (h : valP l k = some d) : XD S (.im (dctD l)) (.im (kD k)) (.im d) := fun C lo os v1 v2 H kk Q q => by
  have e2 := kk.kd
  subst e2
  obtain ⟨B, G, fp, k2, hd⟩ := kk.tail.head
  cases hd with
  | @dct a o kvs _ hs ha =>
    obtain ⟨v, hv, hvd⟩ := (DtK.val (k := k) ha).1 d h
    refine ⟨fun x y H Q => ∃ a v, x = .ref a ∧ DGet H a y (some v) ∧ Q v H, fun X hX => ix_dct (by have := hX.room.units; omega), a, v, rfl, .inl ⟨kvs, k, .inr ⟨o, k2.bh _ _ hs⟩, rfl, hv.symm⟩, q _ _ (k2.put hvd)⟩
theorem od_inDc {l : List (Key × PyData)} {k : Key} : OD S (compareOp .In) (.im (kD k)) (.im (dctD l)) (.im (.bool (valP l k).isSome)) := fun C lo os v1 v2 H kk Q q => by
  have e1 := kk.tail.kd
  subst e1
  obtain ⟨B, G, fp, k2, hd⟩ := kk.head
  cases hd with
  | @dct a o kvs _ hs ha =>
    have e := (DtK.val (k := k) ha).2
    obtain ⟨f1, g1, _, _, k3⟩ := k2.tail
    refine ⟨fun y x H Q => ∃ a o, x = .ref a ∧ DGet H a y o ∧ Q (.bl o.isSome) H, fun X hX => op_inDc (by have := hX.room.units; omega), a, _, rfl, .inl ⟨kvs, k, .inr ⟨o, k2.bh _ _ hs⟩, rfl, rfl⟩, q _ _ ?_⟩
    rw [e]
    exact k3.put (.bl _)
theorem od_ninDc {l : List (Key × PyData)} {k : Key} : OD S (compareOp .NotIn) (.im (kD k)) (.im (dctD l)) (.im (.bool (!(valP l k).isSome))) := fun C lo os v1 v2 H kk Q q => by
  have e1 := kk.tail.kd
  subst e1
  obtain ⟨B, G, fp, k2, hd⟩ := kk.head
  cases hd with
  | @dct a o kvs _ hs ha =>
    have e := (DtK.val (k := k) ha).2
    obtain ⟨f1, g1, _, _, k3⟩ := k2.tail
    refine ⟨fun y x H Q => ∃ a o, x = .ref a ∧ DGet H a y o ∧ Q (.bl (!o.isSome)) H, fun X hX => op_ninDc (by have := hX.room.units; omega), a, _, rfl, .inl ⟨kvs, k, .inr ⟨o, k2.bh _ _ hs⟩, rfl, rfl⟩, q _ _ ?_⟩
    rw [e]
    exact k3.put (.bl _)
theorem dt_key {K : PySem.W.Frag} {H : Hp} (k : Key) : Dt K H (kV k) (kD k) := by
  cases k with
  | inl i => exact .int i
  | inr x => exact .str x
/-- a thing of the base, as it stands -/
def atR (a : Addr) (x : HO) : Res where
  ok := fun B H v fp => v = .ref a ∧ fp = [] ∧ B a = some x
  keep := fun h e _ => ⟨h.1, h.2.1, e _ _ h.2.2⟩
  al := fun h p hp => by
    rw [h.2.1] at hp
    cases hp
/-- for k in d -/
theorem iw_dct {l : List (Key × PyData)} (ha : VE S ρ e (.im (dctD l))) : IW S ρ tg e (l.map fun q => kD q.1).length (fun i => (l.map fun q => kD q.1).getD i .none) := fun C τ vs σ H k lt R q =>
  ⟨iKeys (wE S e), fun X hX => pi_keys (wE_pe hX), ha C τ vs σ H k lt _ fun v H1 k1 => by
    obtain ⟨B, G, fp, k2, hd⟩ := k1.head
    cases hd with
    | @dct a o kvs _ hs hx =>
      have hk := DtK.keys hx
      have hlen : kvs.length = (l.map fun q => kD q.1).length := by
        have := congrArg List.length hk
        rw [List.length_map, List.length_map] at this
        rw [List.length_map]
        exact this
      have k3 : Ok S.K C (.rs (atR a (.frz o (.dK kvs))) :: (τ ++ ρ)) (some (.ref a) :: (vs ++ σ)) H1 := ⟨B, G, fp, k2.cons0 ⟨_, rfl, rfl, rfl, hs⟩⟩
      refine ⟨a, o, rfl, .inl ⟨kvs, k2.bh _ _ hs, q (Itk a o kvs) H1 [.rs (atR a (.frz o (.dK kvs)))] [some (.ref a)] rfl (fun s hs => by rw [List.mem_singleton] at hs; subst hs; rfl) k3 fun i lz os H2 k4 => ?_⟩⟩
      obtain ⟨B2, G2, fp2, k5⟩ := k4
      obtain ⟨f, g, _, ⟨u, e1, _, _, hb⟩, _⟩ := k5.tail
      have hH := k5.bh _ _ hb
      refine ⟨fun hi => ⟨⟨hH, by rw [hlen]; exact hi⟩, fun x H3 y => ?_⟩, fun hi => ⟨hH, by rw [hlen]; exact hi⟩⟩
      obtain ⟨e3, k', v', hkv, ex⟩ := y
      subst e3 ex
      have ek : (kvs.map (·.1))[i]? = some k' := by rw [List.getElem?_map, hkv]; rfl
      rw [hk, List.getElem?_map] at ek
      have ed : (l.map fun q => kD q.1)[i]? = some (kD k') := by
        rw [List.getElem?_map]
        cases hl : l[i]? with
        | none => rw [hl] at ek; cases ek
        | some z =>
          rw [hl] at ek
          cases ek
          rfl
      dsimp only
      rw [getD_some ed]
      exact k5.put (dt_key k')⟩
theorem ix_dctK {l : List (Key × PyData)} (h : VE S ρ e (.im (dctD l))) : IX S ρ tg e (l.map fun q => kD q.1) := iw_dct h
end
end Kd

set_option Elab.async false
set_option linter.all false
set_option maxRecDepth 100000
/-! KeG: own dicts: made, written, made data. -/
namespace Kd
open PySem L2 PySem.Spec PyProof.Rows
open Evl (Ex ex_l ex_t ex_rd fresh_back)
/-- an own dict -/
def dzO (K : PySem.W.Frag) (l : List (Key × PyData)) : Oz where
  ok := fun B x => ∃ kvs, x = .dK kvs ∧ DtK K B kvs (l.map fun q : Key × PyData => (kD q.1, q.2))
  keep := fun ⟨kvs, e, d⟩ b => ⟨kvs, e, DtK.mono b _ _ d⟩
def putP (l : List (Key × PyData)) (k : Key) (d : PyData) : List (Key × PyData) := if (l.any fun q => decide (q.1 = k)) = true then l.map (fun q => if q.1 = k then (q.1, d) else q) else l ++ [(k, d)]
theorem DtK.app {K : PySem.W.Frag} {H : Hp} : ∀ {a b : List (Key × V)} {c d : List (PyData × PyData)}, DtK K H a c → DtK K H b d → DtK K H (a ++ b) (c ++ d)
  | _, _, _, _, .nil, h => h
  | _, _, _, _, .cons h t, h2 => .cons h (DtK.app t h2)
theorem DtK.repl {K : PySem.W.Frag} {H : Hp} {k : Key} {v : V} {d : PyData} (hv : Dt K H v d) : ∀ {l : List (Key × PyData)} {kvs : List (Key × V)}, DtK K H kvs (l.map fun q => (kD q.1, q.2)) → DtK K H (kvs.map fun q => if q.1 = k then (q.1, v) else q) ((l.map fun q => if q.1 = k then (q.1, d) else q).map fun q => (kD q.1, q.2))
  | [], _, h => by
    generalize e : List.map (fun q : Key × PyData => (kD q.1, q.2)) [] = m at h
    cases h with
    | nil => exact .nil
    | cons _ _ => cases e
  | (k1, d1) :: l, kvs, h => by
    generalize e : List.map (fun q : Key × PyData => (kD q.1, q.2)) ((k1, d1) :: l) = m at h
    cases h with
    | nil => cases e
    | @cons k' v' vs d' ds h1 h2 =>
      rw [List.map_cons] at e
      injection e with e1 e2
      injection e1 with e3 e4
      have := kD_inj e3
      subst this e2 e4
      rw [List.map_cons, List.map_cons, List.map_cons]
      by_cases hk : k1 = k
      · rw [if_pos (show (k1, v').1 = k from hk), if_pos (show (k1, d1).1 = k from hk)]
        exact .cons hv (DtK.repl hv h2)
      · rw [if_neg (show ¬ (k1, v').1 = k from hk), if_neg (show ¬ (k1, d1).1 = k from hk)]
        exact .cons h1 (DtK.repl hv h2)
theorem any_keys {α β : Type} (k : Key) : ∀ (a : List (Key × α)) (b : List (Key × β)), (a.map fun q => q.1) = (b.map fun q => q.1) → (a.any fun q => decide (q.1 = k)) = (b.any fun q => decide (q.1 = k))
  | [], [], _ => rfl
  | [], _ :: _, e => by cases e
  | _ :: _, [], e => by cases e
  | x :: a, y :: b, e => by
    rw [List.map_cons, List.map_cons] at e
    injection e with e1 e2
    rw [List.any_cons, List.any_cons, any_keys k a b e2, e1]
theorem DtK.put {K : PySem.W.Frag} {H : Hp} {k : Key} {v : V} {d : PyData} {l : List (Key × PyData)} {kvs : List (Key × V)} (h : DtK K H kvs (l.map fun q => (kD q.1, q.2))) (hv : Dt K H v d) : DtK K H (putK kvs k v) ((putP l k d).map fun q => (kD q.1, q.2)) := by
  have e := DtK.keys h
  have ea : (kvs.any fun q => decide (q.1 = k)) = (l.any fun q => decide (q.1 = k)) := any_keys k kvs l e
  unfold putK putP
  rw [ea]
  split
  · exact DtK.repl hv h
  · rw [List.map_append]
    exact h.app (.cons hv .nil)
theorem upd_upd {H : Hp} {p : Addr} {x y : HO} : upd (upd H p x) p y = upd H p y := by
  funext a
  by_cases h : a = p
  · subst h; rw [upd_same, upd_same]
  · rw [upd_ne h, upd_ne h, upd_ne h]
section
variable {K : PySem.W.Frag} {C : Cz} {B G H : Hp} {ρ : List Sl} {σ : List (Option V)} {fp : List Addr}
theorem OkB.putOg {Z : Oz} {p : Addr} {x : HO} (k : OkB K C B G fp ρ σ H) (hp : H p = none) (h : Z.ok B x) : Ok K C (.og Z :: ρ) (some (.ref p) :: σ) (upd H p x) := by
  obtain ⟨bp, gp, ep, np⟩ := Ok.fresh k hp
  have k2 := k.layOwn (x := x) hp
  refine ⟨B, G, [p] ++ fp, k2.b, k2.g, k2.h, k2.e, k2.n, k2.dom, ?_, fun a ha => ?_, .cons ⟨p, x, rfl, rfl, ep, upd_same, h⟩ k2.sls⟩
  · exact List.nodup_cons.mpr ⟨np, k2.nd⟩
  · rcases List.mem_append.mp ha with z | z
    · rw [List.mem_singleton] at z
      subst z
      exact ⟨bp, .inl ep⟩
    · exact k2.own a z
/-- the own thing in slot i changes -/
theorem OkB.changeG {i : Nat} {Z : Oz} (k : OkB K C B G fp ρ σ H) (nv : ∀ s ∈ ρ, noV s = true) (e : ρ[i]? = some (.og Z)) :
    ∃ p x, σ[i]? = some (some (.ref p)) ∧ H p = some x ∧ Z.ok B x ∧ ∀ x' (Z' : Oz), Z'.ok B x' → Ok K C (ρ.set i (.og Z')) σ (upd H p x') := by
  obtain ⟨o, f, e2, q, hf⟩ := k.sls.get e
  obtain ⟨p, x, rfl, rfl, hn, hp, hd⟩ := q
  have k2 := k.blind nv
  have bp := (k.own p (hf p (by simp))).1
  refine ⟨p, x, e2, hp, hd, fun x' Z' hd' => ⟨B, B, fp, k2.b, k2.g, fun a x q => ?_, fun a x q w => ?_, k2.n, fun a q => ?_, k2.nd, k2.own, k2.sls.change k2.nd e e2 bp (fun f hf => ?_) ⟨p, x', rfl, rfl, hn, upd_same, hd'⟩⟩⟩
  · rw [upd_ne (ne_of_none q bp)]
    exact k2.bh _ _ q
  · rw [upd_ne (ne_of_none q hn)]
    exact k2.e _ _ q w
  · by_cases hap : a = p
    · subst hap
      exact hn
    · rw [upd_ne hap] at q
      exact k2.dom a q
  · obtain ⟨p', xs', e1, rfl, _⟩ := hf
    cases e1
    rfl
theorem Sls.iceG {i : Nat} {p : Addr} {x : HO} {Z : Oz} {d : PyData} (h : Sls K C B G H ρ σ fp) (nd : fp.Nodup) (bp : B p = none) (hg : Ex G H) (hp : H p = some x) (hd : Dt K (upd B p x) (.ref p) d) (e : ρ[i]? = some (.og Z)) (eo : σ[i]? = some (some (.ref p))) :
    ∃ fp', Sls K C (upd B p x) (upd G p x) H (ρ.set i (.im d)) σ fp' ∧ fp'.Nodup ∧ p ∉ fp' ∧ ∀ q ∈ fp', q ∈ fp := by
  have eB : Ex B (upd B p x) := Ex.new bp
  have eG : Ex G (upd G p x) := Ex.over hg hp
  induction h generalizing i with
  | nil => simp at e
  | @cons s1 o1 f1 g1 _ _ h1 h2 ih =>
    obtain ⟨n1, n2, n3⟩ := List.nodup_append.mp nd
    cases i with
    | zero =>
      simp at e eo
      subst e eo
      obtain ⟨p', xs', e1, rfl, z⟩ := h1
      cases e1
      have np : p ∉ g1 := fun z => n3 p (by simp) p z rfl
      refine ⟨g1, .cons (f := []) ⟨rfl, _, rfl, hd⟩ (h2.up eB eG (fun a ha q => ?_) (Ex.refl _)), n2, np, fun q hq => List.mem_append_right _ hq⟩
      rw [upd_ne (show a ≠ p from fun y => np (y ▸ ha))]
      exact q
    | succ i =>
      obtain ⟨fp', k1, k2, k3, k4⟩ := ih n2 (by simpa using e) (by simpa using eo)
      obtain ⟨o2, f2, e2, q2, z⟩ := h2.get (i := i) (by simpa using e)
      have e3 : some (some (V.ref p)) = some o2 := by rw [← e2]; simpa using eo.symm
      cases e3
      obtain ⟨p', xs', e1, rfl, _⟩ := q2
      cases e1
      have np : p ∉ f1 := fun y => n3 p y p (z p (by simp)) rfl
      refine ⟨f1 ++ fp', .cons (h1.up eB eG (fun a ha q => ?_) (Ex.refl _)) k1, List.nodup_append.mpr ⟨n1, k2, fun a ha b hb => n3 a ha b (k4 b hb)⟩, fun y => ?_, fun q hq => ?_⟩
      · rw [upd_ne (show a ≠ p from fun y => np (y ▸ ha))]
        exact q
      · rcases List.mem_append.mp y with y | y
        · exact np y
        · exact k3 y
      · rcases List.mem_append.mp hq with y | y
        · exact List.mem_append_left _ y
        · exact List.mem_append_right _ (k4 q y)
/-- an own thing that stands for good becomes data -/
theorem Ok.iceG {i : Nat} {Z : Oz} {d : PyData} (h : Ok K C ρ σ H) (e : ρ[i]? = some (.og Z)) (hd : ∀ B p x, B p = none → Z.ok B x → Dt K (upd B p x) (.ref p) d) : Ok K C (ρ.set i (.im d)) σ H := by
  obtain ⟨B, G, fp, k⟩ := h
  obtain ⟨o, f, e2, q, hf⟩ := k.sls.get e
  obtain ⟨p, x, rfl, rfl, hn, hp, hz⟩ := q
  have bp := (k.own p (hf p (by simp))).1
  obtain ⟨fp', k1, k2, k3, k4⟩ := k.sls.iceG k.nd bp k.h hp (hd B p x bp hz) e e2
  refine ⟨upd B p x, upd G p x, fp', k.b.trans (Ex.new bp), Ex.both k.g, Ex.put k.h hp, k.e, fun a x q => ?_, k.dom, k2, fun a ha => ?_, k1⟩
  · by_cases hap : a = p
    · subst hap
      exact .inr hn
    · rw [upd_ne hap] at q
      exact k.n a x q
  · have z := k.own a (k4 a ha)
    refine ⟨?_, z.2⟩
    rw [upd_ne (show a ≠ p from fun y => k3 (y ▸ ha))]
    exact z.1
end
/-- a dict that stands for good -/
def fzO (K : PySem.W.Frag) (l : List (Key × PyData)) : Oz where
  ok := fun B x => ∃ o kvs, x = .frz o (.dK kvs) ∧ DtK K B kvs (l.map fun q : Key × PyData => (kD q.1, q.2))
  keep := fun ⟨o, kvs, e, d⟩ b => ⟨o, kvs, e, DtK.mono b _ _ d⟩
theorem fz_dt {K : PySem.W.Frag} {l : List (Key × PyData)} {B : Hp} {p : Addr} {x : HO} (bp : B p = none) (h : (fzO K l).ok B x) : Dt K (upd B p x) (.ref p) (dctD l) := by
  obtain ⟨o, kvs, rfl, d⟩ := h
  exact .dct upd_same (DtK.mono (Ex.new bp) _ _ d)
/-! a thing is locked ahead of statements, behind an expression -/
def lkS (t : TS) : TS := fun D σ H => ∃ d u, H d = some u ∧ Mut (some u) ∧ ∀ od, t D σ (upd H d (.frz od u))
theorem pss_lock {X : Cx} {st : List Stmt} {t : TS} (h : PSs X st t) : PSs X st (lkS t) := ⟨fun pins s σ H D I ⟨d, u, hd, mu, q⟩ => by
  obtain ⟨od, I2⟩ := I.lock hd mu
  exact h.run pins s σ _ D I2 (q od)⟩
def lkE (t : TE) : TE := fun σ H Q => t σ H fun v H1 => ∃ d u, v = .ref d ∧ H1 d = some u ∧ Mut (some u) ∧ ∀ od, Q v (upd H1 d (.frz od u))
theorem pe_lock {X : Cx} {e : Expr} {t : TE} (h : PE X e t) : PE X e (lkE t) := ⟨fun pins s σ H Q I q => thn (h.run pins s σ H _ I q) fun u s1 ⟨x, H1, I1, rx, d, w, ex, hd, mu, q2⟩ => by
  obtain ⟨od, I2⟩ := I1.lock hd mu
  exact ⟨x, _, I2, rx, q2 od⟩⟩
section
variable {S : Sh} {fl : Bool} {ρ : List Sl} {rest : List Stmt} {e : Expr} {pos : Pos} {P : Pst} {X : Str → Prop} {Q : Sl → List Sl → Prop}
/-- the own dict in slot i becomes data -/
theorem rb_iceD (i : Nat) {l : List (Key × PyData)} (e : ρ[i]? = some (.og (dzO S.K l))) (nv : ρ.all noV = true) (h : RB S (ρ.set i (.im (dctD l))) rest P) : RB S ρ rest P := rb_of (t := lkS (wB S rest)) (fun X hX => pss_lock (wB_pss hX)) fun C τ vs σ H D k lt nvt m => by
  obtain ⟨B, G, fp, kb⟩ := k
  obtain ⟨p, x, e2, hp, ⟨kvs, rfl, hd⟩, fin⟩ := kb.changeG (nv_all nvt nv) (off_get (τ := τ) e)
  refine ⟨p, _, hp, trivial, fun od => ?_⟩
  have k2 := fin (.frz od (.dK kvs)) (fzO S.K l) ⟨od, kvs, rfl, hd⟩
  rw [off_set] at k2
  have k3 := k2.iceG (i := τ.length + i) (off_get (by
    rw [List.getElem?_set_self]
    rcases Nat.lt_or_ge i ρ.length with z | z
    · exact z
    · rw [List.getElem?_eq_none z] at e; cases e)) (fun B p x => fz_dt)
  rw [off_set, List.set_set] at k3
  exact h C τ vs σ _ D k3 lt nvt m
/-- {} -/
theorem ce_dict0 (q : Q (.og (dzO S.K [])) ρ) : CE S fl ρ (.Dict [] [] pos) X Q := fun C τ vs σ H k l nv QQ qq xx =>
  ⟨tDNewK, fun X hX => pe_dnewK, fun p hp => by
    obtain ⟨B, G, fp, kb⟩ := k
    exact qq _ _ _ _ q (kb.putOg hp ⟨[], rfl, .nil⟩)⟩
theorem ce_dctE (q : Q (.im (dctD [])) ρ) : CE S fl ρ (.Dict [] [] pos) X Q := fun C τ vs σ H k l nv QQ qq xx =>
  ⟨lkE tDNewK, fun X hX => pe_lock pe_dnewK, fun p hp => ⟨p, _, rfl, upd_same, trivial, fun od => by
    obtain ⟨B, G, fp, kb⟩ := k
    rw [upd_upd]
    exact qq _ _ _ _ q ((kb.lay hp).put (.dct upd_same .nil))⟩⟩
def DsK (S : Sh) (i : Nat) (ρ1 : List Sl) (ix : Expr) (d : PyData) (K : List Sl → Prop) : Prop := ∃ l key, VE S ρ1 ix (.im (kD key)) ∧ ρ1[i]? = some (.og (dzO S.K l)) ∧ l.length < 10000 ∧ ρ1.all noV = true ∧ K (ρ1.set i (.og (dzO S.K (putP l key d))))
/-- x[k] = e -/
theorem rc_setD {i : Nat} {x : Str} {p1 p2 : Pos} {ix : Expr} (hN : Ix S.N i x) (hv : Vis S.sc x) (h : CE S true ρ e P.ex fun r ρ1 => ImK r fun d => DsK S i ρ1 ix d fun ρ3 => RB S ρ3 rest P)
    (hd : (x == ("__debug__" : Str)) = false := by decide) (hcd : (x == ("__classdict__" : Str)) = false := by decide)
    (hs : ∀ X : Cx, swapsWith e (some (.Subscript (.Name x p1) ix p2)) pos.line X.env = pure false := by intro _; rfl) : RB S ρ (.Assign [.Subscript (.Name x p1) ix p2] e pos :: rest) P :=
  rb_cons (rs_of (t := sDPut (tVar i) (wE S ix) (wE S e)) (fun X hX => ps_dput (by have := hX.room.units; omega) (pe_var (by rw [hX.N]; exact hN.get) (by rw [hX.sc]; exact hv) hd hcd) (wE_pe hX) (wE_pe hX) (hs X)) fun C τ vs σ H D k l nvt m => h C τ vs σ H k l (fun _ => nvt) _ (fun r ρ1 y H1 z k1 => by
    have fin : ∀ d, Ok S.K C (.im d :: (τ ++ ρ1)) (some y :: (vs ++ σ)) H1 → (DsK S i ρ1 ix d fun ρ3 => RB S ρ3 rest P) → tVar i σ H1 fun x H2 => wE S ix σ H2 fun y' H3 => ∃ a H4, x = .ref a ∧ DPut H3 a y' y H4 ∧ D.nx σ H4 := fun d k1 z => by
      obtain ⟨ll, key, hi, hr, hl, nv, q⟩ := z
      obtain ⟨B, G, fp, kb⟩ := id k1
      obtain ⟨o, f, e2, ⟨p, x0, rfl, rfl, _⟩, _⟩ := kb.sls.get (i := τ.length + i + 1) (s := .og (dzO S.K ll)) (by rw [List.getElem?_cons_succ]; exact off_get hr)
      rw [List.getElem?_cons_succ] at e2
      have ev := e2
      rw [l, List.getElem?_append_right (Nat.le_add_right _ _), Nat.add_sub_cancel_left] at ev
      refine ⟨.ref p, ev, hi C (_ :: τ) (some y :: vs) σ H1 k1 (congrArg (· + 1) l) _ fun w H2 k3 => ?_⟩
      have e3 := k3.kd
      subst e3
      have k4 : Ok S.K C (.im d :: (τ ++ ρ1)) (some y :: (vs ++ σ)) H2 := k3.tail
      obtain ⟨B, G, fp, k5, hy⟩ := k4.head
      obtain ⟨p', x1, e4, hp, ⟨kvs, rfl, hd⟩, fin⟩ := k5.changeG (nv_all nvt nv) (off_get (τ := τ) hr)
      rw [e4] at e2
      have ep : p' = p := by
        injection e2 with e2
        injection e2 with e2
        injection e2
      subst ep
      have hlen : kvs.length = ll.length := by
        have := congrArg List.length (DtK.keys hd)
        rw [List.length_map, List.length_map] at this
        exact this
      refine ⟨p', _, rfl, DPut.k hp (by rw [sizeLine_eq]; omega), m.nx _ σ _ q ?_⟩
      have k6 := fin (.dK (putK kvs key y)) (dzO S.K (putP ll key d)) ⟨_, rfl, hd.put hy⟩
      rw [off_set] at k6
      exact k6
    rcases z with ⟨d, rfl, z⟩ | ⟨ds, rfl, z⟩
    · exact fin d k1 z
    · exact fin _ k1.freeze z) (fun c cv ρ' H' hx hm kx => m.ex c cv ρ' σ H' hx hm kx))
end
/-! displays -/
def KeK (s : Sl) (K : Key → Prop) : Prop := ∃ key, s = .im (kD key) ∧ K key
theorem kek_s {x : Str} {K : Key → Prop} (h : K (.inr x)) : KeK (.im (.str x)) K := ⟨.inr x, rfl, h⟩
theorem kek_i {x : Int} {K : Key → Prop} (h : K (.inl x)) : KeK (.im (.int x)) K := ⟨.inl x, rfl, h⟩
def CP (S : Sh) (fl : Bool) (ρ : List Sl) (ps : List (Expr × Expr)) (X : Str → Prop) (Q : List (Key × PyData) → List Sl → Prop) : Prop :=
  ∀ (C : Cz) (τ : List Sl) (vs σ : List (Option V)) (H : Hp), Ok S.K C (τ ++ ρ) (vs ++ σ) H → τ.length = vs.length → NV fl τ →
  ∀ QQ : List (V × V) → Hp → Prop, (∀ kds ρ' ws H', Q kds ρ' → ws.length = kds.length → Ok S.K C ((kds.map fun q => Sl.im q.2).reverse ++ (τ ++ ρ')) (ws.reverse.map some ++ (vs ++ σ)) H' → QQ (((kds.map (·.1)).zip ws).map fun q => (kV q.1, q.2)) H') → XH S C τ vs σ X →
  tPairs (ps.map fun q => (wE S q.1, wE S q.2)) σ H QQ
section
variable {S : Sh} {fl : Bool} {ρ : List Sl} {a b : Expr} {ps : List (Expr × Expr)} {pos : Pos} {X : Str → Prop} {Q : List (Key × PyData) → List Sl → Prop}
theorem cp_nil (q : Q [] ρ) : CP S fl ρ [] X Q := fun C τ vs σ H k l nv QQ qq xx => qq [] ρ [] H q rfl k
theorem cp_cons (h : CE S fl ρ a X fun s1 ρ1 => KeK s1 fun key => CE S fl ρ1 b X fun s2 ρ2 => ImK s2 fun d => CP S fl ρ2 ps X fun kds ρ3 => Q ((key, d) :: kds) ρ3) : CP S fl ρ ((a, b) :: ps) X Q := fun C τ vs σ H k l nv QQ qq xx =>
  h C τ vs σ H k l nv _ (fun s1 ρ1 v1 H1 z k1 => by
    obtain ⟨key, rfl, h1⟩ := z
    have e1 := k1.kd
    subst e1
    refine h1 C τ vs σ H1 k1.tail l nv _ (fun s2 ρ2 v2 H2 z2 k2 => ?_) xx
    have fin : ∀ d, Ok S.K C (.im d :: (τ ++ ρ2)) (some v2 :: (vs ++ σ)) H2 → (CP S fl ρ2 ps X fun kds ρ3 => Q ((key, d) :: kds) ρ3) → tPairs (ps.map fun q => (wE S q.1, wE S q.2)) σ H2 fun ps H3 => QQ ((kV key, v2) :: ps) H3 := fun d k3 hp =>
      hp C (.im d :: τ) (some v2 :: vs) σ H2 k3 (congrArg (· + 1) l) nv.im _ (fun kds ρ3 ws H3 q lw k4 => qq ((key, d) :: kds) ρ3 (v2 :: ws) H3 q (congrArg (· + 1) lw) (by
        rw [List.map_cons, List.reverse_cons, List.reverse_cons, List.map_append, List.append_assoc, List.append_assoc]
        exact k4)) xx.cons
    rcases z2 with ⟨d, rfl, z⟩ | ⟨ds, rfl, z⟩
    · exact fin d k2 z
    · exact fin _ k2.freeze z) xx
theorem pps_of {Y : Cx} (hX : S.Has Y) : ∀ ps : List (Expr × Expr), PPs Y pos (ps.map fun q => some q.1) (ps.map (·.2)) (ps.map fun q => (wE S q.1, wE S q.2))
  | [] => pps_nil
  | _ :: ps => pps_cons (wE_pe hX) (wE_pe hX) (pps_of hX ps)
theorem merge_nd : ∀ (more kvs : List (Key × V)), ((kvs ++ more).map (·.1)).Nodup → mergeK kvs more = kvs ++ more
  | [], kvs, _ => (List.append_nil kvs).symm
  | p :: r, kvs, h => by
    have hn : valV kvs p.1 = none := by
      unfold valV
      rw [Option.map_eq_none_iff, List.find?_eq_none]
      intro q hq
      rw [List.map_append, List.map_cons] at h
      have := (List.nodup_append.mp h).2.2 q.1 (List.mem_map_of_mem hq) p.1 List.mem_cons_self
      simpa using this
    show mergeK (putK kvs p.1 p.2) r = _
    rw [putK_new p.2 hn, merge_nd r _ (by rw [List.append_assoc]; exact h), List.append_assoc]
    rfl
theorem DtK.zip {K : PySem.W.Frag} {H : Hp} : ∀ {kds : List (Key × PyData)} {ws : List V}, DtA K H ws (kds.map (·.2)) → DtK K H ((kds.map (·.1)).zip ws) (kds.map fun q => (kD q.1, q.2))
  | [], _, h => by cases h; exact .nil
  | (k, d) :: kds, _, h => by
    cases h with
    | cons h1 h2 => exact .cons h1 (DtK.zip h2)
/-- {k: v, ..}, as data -/
theorem ce_dctP {Q : Sl → List Sl → Prop} (ps : List (Expr × Expr)) (h : CP S true ρ ps X fun kds ρ1 => ρ1.all noV = true ∧ kds.length ≤ 15 ∧ (kds.map (·.1)).Nodup ∧ Q (.im (dctD kds)) ρ1) (h0 : ps ≠ []) (h15 : ps.length ≤ 15) : CE S true ρ (.Dict (ps.map fun q => some q.1) (ps.map (·.2)) pos) X Q := fun C τ vs σ H k l nv QQ qq xx =>
  ⟨lkE (tDisp (ps.map fun q => (wE S q.1, wE S q.2))), fun Y hX => pe_lock (pe_disp (pps_of hX ps) (by rw [List.all_map]; exact List.all_eq_true.mpr fun _ _ => rfl) (by rw [List.length_map, List.length_map]) (fun z => h0 (List.map_eq_nil_iff.mp z)) (by rw [List.length_map]; exact h15)), fun p hp => by
    obtain ⟨B, G, fp, kb⟩ := k
    have k1 := kb.putOg (Z := dzO S.K []) hp ⟨[], rfl, .nil⟩
    refine h C (.og (dzO S.K []) :: τ) (some (.ref p) :: vs) σ _ k1 (congrArg (· + 1) l) (fun _ s hs => by
      rcases List.mem_cons.mp hs with rfl | hs
      · rfl
      · exact nv rfl s hs) _ (fun kds ρ1 ws H2 q lw k2 => ?_) xx.cons
    obtain ⟨nv1, n15, nd, q⟩ := q
    have k2' : Ok S.K C (((kds.map (·.2)).map Sl.im).reverse ++ (.og (dzO S.K []) :: (τ ++ ρ1))) (ws.reverse.map some ++ (some (.ref p) :: (vs ++ σ))) H2 := by
      rw [List.map_map]
      exact k2
    obtain ⟨B2, G2, fp2, k3, hd⟩ := k2'.rev (by rw [lw, List.length_map])
    obtain ⟨p', x, e2, hp', ⟨kvs0, rfl, hd0⟩, fin⟩ := k3.changeG (i := 0) (fun s hs => by
      rcases List.mem_cons.mp hs with rfl | hs
      · rfl
      · exact nv_all (nv rfl) nv1 s hs) rfl
    cases e2
    have ek := DtK.keys hd0
    have ek0 : kvs0 = [] := by simpa using ek
    subst ek0
    have hz := DtK.zip hd
    have hlz : ((kds.map (·.1)).zip ws).map (·.1) = kds.map (·.1) := by
      rw [List.map_fst_zip]
      rw [List.length_map, lw]
      exact Nat.le_refl _
    refine ⟨hp', (kds.map (·.1)).zip ws, rfl, ?_, p, _, rfl, upd_same, trivial, fun od => ?_⟩
    · rw [List.length_zip, List.length_map]
      omega
    · rw [upd_upd, merge_nd _ [] (by rw [List.nil_append, hlz]; exact nd), List.nil_append]
      have k4 := fin (.frz od (.dK ((kds.map (·.1)).zip ws))) (fzO S.K kds) ⟨od, _, rfl, hz⟩
      have k5 := k4.iceG (i := 0) rfl (fun B p x => fz_dt)
      exact qq _ _ _ _ q k5⟩
end
end Kd

set_option Elab.async false
set_option linter.all false
set_option maxRecDepth 100000
/-! KeH: texts that are constants of the module. -/
namespace Kd
open PySem L2 PySem.Spec PyProof.Rows
section
variable {S : Sh} {fl : Bool} {ρ : List Sl} {pos : Pos} {X : Str → Prop} {Q : Sl → List Sl → Prop}
theorem ve_globS {x n : Str} (hm : ∃ t, S.mg x = some (.str n t)) (hg : S.sc.names.lookup x = some .globalImplicit := by rfl) (hd : (x == ("__debug__" : Str)) = false := by decide) : VE S ρ (.Name x pos) (.im (.str n)) := by
  obtain ⟨t, hm⟩ := hm
  exact ve_glob (v := .str n) hm ⟨t, rfl⟩ (.str n) hg hd
theorem ce_globS {x n : Str} (hm : ∃ t, S.mg x = some (.str n t)) (hg : S.sc.names.lookup x = some .globalImplicit) (q : Q (.im (.str n)) ρ) (hd : (x == ("__debug__" : Str)) = false := by decide) : CE S fl ρ (.Name x pos) X Q := ce_ve (ve_globS hm hg hd) q
end
end Kd

set_option Elab.async false
set_option linter.all false
set_option maxRecDepth 100000
/-! KeI: zip of two sequences, each a list or a tuple. -/
namespace Kd
open PySem L2 PySem.Spec PyProof.Rows
open Evl (Ex ex_l ex_t ex_rd fresh_back)
def SqB (t : Bool) (K : PySem.W.Frag) (H : Hp) (a : Addr) (xs : List V) : Prop := match t with | true => SqT K H a xs | false => SqL K H a xs
def AIt (t : Bool) (h : Heap) (it a : Addr) (i : Nat) : Prop := match t with | true => h.IsTupleIter it a i | false => h.IsListIter it a i
def AIs (t : Bool) (h : Heap) (a : Addr) (its : Array Value) : Prop := match t with | true => h.IsTuple a its | false => h.IsList a its
def seqO (t : Bool) (a : Addr) : Obj := match t with | true => { cls := .type "tuple_iterator", data := .fields #[.ref a, .int 0 0] } | false => { cls := .type "list_iterator", data := .fields #[.ref a, .int 0 0] }
theorem draws_sq {prog : Program} {w : World} {A : Around} (t : Bool) (hh : A.handled = none) (it l : Addr) (hne : l ≠ it) (items : Array Value) :
    Draws prog w A it [it, l] items.size (fun i v => items[i]? = some v) (fun i h => AIt t h it l i ∧ AIs t h l items) := by
  cases t with
  | true => exact Draws.tuple hh it l hne items
  | false => exact Draws.list hh it l hne items
theorem begins_sq (t : Bool) (l : Addr) (items : Array Value) : Begins (.ref l) (seqO t l) fun h => AIs t h l items := by
  cases t with
  | true => exact begins_tuple l items
  | false => exact begins_list l items
theorem seq_iter {t : Bool} {h : Heap} {it a : Addr} (e : h.get? it = some (seqO t a)) : AIt t h it a 0 := by
  cases t with
  | true => exact ⟨_, e, rfl, rfl⟩
  | false => exact ⟨_, e, rfl, rfl⟩
theorem ait_at {t : Bool} {h h' : Heap} {it a : Addr} {i : Nat} (x : AIt t h it a i) (e : ∀ o, h.get? it = some o → h'.get? it = some o) : AIt t h' it a i := by
  cases t with
  | true => exact PySem.Heap.IsTupleIter.at x e
  | false => exact PySem.Heap.IsListIter.at x e
theorem ait_obj {t : Bool} {h : Heap} {it a : Addr} {i : Nat} (x : AIt t h it a i) : ∃ o, h.get? it = some o ∧ ∀ v, o.data ≠ .cell v := by
  cases t with
  | true => obtain ⟨o, e, _, d⟩ := x; exact ⟨o, e, fun v q => by rw [d] at q; cases q⟩
  | false => obtain ⟨o, e, _, d⟩ := x; exact ⟨o, e, fun v q => by rw [d] at q; cases q⟩
section
variable {X : Cx} {pins : List (Addr × Obj)} {σ : L2.St} {H : Hp} {s : Shared}
theorem inv_sq {t : Bool} {a : Addr} {xs : List V} (I : Inv X pins σ H s) (h : SqB t X.K H a xs) : ∃ its : List Value, Vals xs its ∧ AIs t s.heap a its.toArray ∧ a < s.heap.objs.size := by
  cases t with
  | true =>
    obtain ⟨its, rv, p, _⟩ := I.tuple h
    obtain ⟨o, ho, _⟩ := id p
    exact ⟨its, rv, p, Heap.lt_size ho⟩
  | false =>
    obtain ⟨its, rv, p, _⟩ := I.list h
    exact ⟨its, rv, p.isList, p.lt⟩
theorem sqb_inj {t : Bool} {a : Addr} {xs ys : List V} (I : Inv X pins σ H s) (h : SqB t X.K H a xs) (h' : SqB t X.K H a ys) : xs = ys := by
  cases t with
  | true => exact I.tuple_inj h h'
  | false => exact I.list_inj h h'
end
/-- the sequences at a and b, of so many items, as they stand at each turn -/
def ItzB (K : PySem.W.Frag) (t1 t2 : Bool) (a b : Addr) (n : Nat) : It :=
  ⟨fun i H => i < n ∧ ∃ (xs ys : List V), SqB t1 K H a xs ∧ SqB t2 K H b ys ∧ n = min xs.length ys.length,
    fun i H v H' => ∃ T x y, v = .ref T ∧ H T = none ∧ H' = upd H T (.tup [x, y]) ∧ (∀ xs, SqB t1 K H a xs → xs[i]? = some x) ∧ ∀ ys, SqB t2 K H b ys → ys[i]? = some y,
    fun i H => n ≤ i ∧ ∃ (xs ys : List V), SqB t1 K H a xs ∧ SqB t2 K H b ys ∧ n = min xs.length ys.length⟩
def ZTn (t1 t2 : Bool) (a b z TI TO i1 i2 : Addr) (n : Nat) (i : Nat) (h : Heap) : Prop := i ≤ n ∧ IsZip h z TI TO .none ∧ IsTupOf2 h TI (.ref i1) (.ref i2) ∧ (∃ x y, IsTupOf2 h TO x y) ∧ AIt t1 h i1 a i ∧ AIt t2 h i2 b i
theorem turn_zipB {P : Program} {w : World} {K : PySem.W.Frag} {elts : List Expr} {kk : Nat} {tpos : Pos} {t1 t2 : Bool} {a b z TI TO i1 i2 : Addr} {n : Nat} (S : ZipSep2 z TI TO i1 i2 [i1, a] [i2, b]) (ha : a ≠ i1) (hb : b ≠ i2) :
    Turn P w K (.Tuple elts kk tpos) (ItzB K t1 t2 a b n) [z, TI, TO, i1, i2] z (ZTn t1 t2 a b z TI TO i1 i2 n) where
  mem := by simp
  obj := fun i h st c hc => by
    obtain ⟨_, hz, hTI, ⟨x, y, hTO⟩, e1, e2⟩ := st
    have e' : c = z ∨ c = TI ∨ c = TO ∨ c = i1 ∨ c = i2 := by simpa using hc
    rcases e' with rfl | rfl | rfl | rfl | rfl
    · exact ⟨_, hz, fun v q => by cases q⟩
    · exact ⟨_, hTI, fun v q => by cases q⟩
    · exact ⟨_, hTO, fun v q => by cases q⟩
    · exact ait_obj e1
    · exact ait_obj e2
  keep := fun i h h' st k => by
    obtain ⟨hi, hz, hTI, ⟨x, y, hTO⟩, e1, e2⟩ := st
    exact ⟨hi, k z (by simp) _ hz, k TI (by simp) _ hTI, ⟨x, y, k TO (by simp) _ hTO⟩, ait_at e1 fun o q => k i1 (by simp) o q, ait_at e2 fun o q => k i2 (by simp) o q⟩
  item := by
    intro X hP hw hK hc i pins s σ H E I hf st hg
    subst hP hw hK
    obtain ⟨_, hz, hTI, hTO, e1, e2⟩ := st
    obtain ⟨hi, xs, ys, hqx, hqy, hn⟩ := hg
    obtain ⟨its, rv, p1, _⟩ := inv_sq I hqx
    obtain ⟨its2, rv2, p2, _⟩ := inv_sq I hqy
    have l1 := rv.length
    have l2 := rv2.length
    obtain ⟨u, hu, ru⟩ := rv.get (List.getElem?_eq_getElem (l := xs) (i := i) (by omega))
    obtain ⟨u2, hu2, ru2⟩ := rv2.get (List.getElem?_eq_getElem (l := ys) (i := i) (by omega))
    have hh : X.A.in1.handled = none := I.ok.hd hc
    have W := GoesN.zip2 (elts := elts) (x1 := kk) (pos := tpos) S (draws_sq (prog := X.prog) (w := X.w) t1 hh i1 a ha its.toArray) (draws_sq (prog := X.prog) (w := X.w) t2 hh i2 b hb its2.toArray)
    refine W.goes i s (fun v s2 => ∃ x H', Inv X pins σ H' s2 ∧ RelV x v ∧ _ ∧ _ ∧ _) E (by simp; omega) ⟨hz, hTI, hTO, ⟨e1, p1⟩, ⟨e2, p2⟩⟩ fun v h' tk hY st' hk htk => ?_
    obtain ⟨T, y1, y2, rfl, hT, hy1, hy2, hTt⟩ := hY
    have f1 : y1 = u := by simp at hy1; rw [hu] at hy1; exact (Option.some.inj hy1).symm
    have f2 : y2 = u2 := by simp at hy2; rw [hu2] at hy2; exact (Option.some.inj hy2).symm
    subst f1 f2
    have new : ObjOk X.prog X.w (upd H T (.tup [xs[i]'(by omega), ys[i]'(by omega)])) h' T (.tup [xs[i]'(by omega), ys[i]'(by omega)]) :=
      ⟨by show 2 ≤ sizeLine; decide, [y1, y2], .cons ru (.cons ru2 .nil), hTt⟩
    have I1 := I.turnedNew (t' := tk) (ch := [z, TI, TO, i1, i2]) (fun c o hb q => hk c o (by simp at hb ⊢; exact ⟨hb.1, hb.2.2.1, hb.2.2.2.1, hb.2.2.2.2⟩) q) hf hT new
    obtain ⟨s1, s2, s3, s4, s5⟩ := st'
    refine ⟨.ref T, _, I1, rfl, ⟨T, _, _, rfl, I.hok.fresh hT, rfl, fun l hl => ?_, fun l hl => ?_⟩, ⟨by omega, s1, s2, s3, s4.1, s5.1⟩, fun c hcm => ?_⟩
    · rw [sqb_inj I hl hqx]; exact List.getElem?_eq_getElem _
    · rw [sqb_inj I hl hqy]; exact List.getElem?_eq_getElem _
    · have hlt : c < s.heap.objs.size := by
        have e' : c = z ∨ c = TI ∨ c = TO ∨ c = i1 ∨ c = i2 := by simpa using hcm
        obtain ⟨x0, y0, hTO⟩ := hTO
        rcases e' with rfl | rfl | rfl | rfl | rfl
        · exact Heap.lt_size hz
        · exact Heap.lt_size hTI
        · exact Heap.lt_size hTO
        · obtain ⟨_, e, _⟩ := ait_obj e1; exact Heap.lt_size e
        · obtain ⟨_, e, _⟩ := ait_obj e2; exact Heap.lt_size e
      rw [upd_ne (Nat.ne_of_lt (Nat.lt_of_lt_of_le hlt hT))]
      exact (hf c hcm).1
  done := by
    intro X hP hw hK hc i pins s σ H E I hf st hg
    subst hP hw hK
    obtain ⟨h0, hz, hTI, hTO, e1, e2⟩ := st
    obtain ⟨hi, xs, ys, hqx, hqy, hn⟩ := hg
    obtain ⟨its, rv, p1, _⟩ := inv_sq I hqx
    obtain ⟨its2, rv2, p2, _⟩ := inv_sq I hqy
    have l1 := rv.length
    have l2 := rv2.length
    have hh : X.A.in1.handled = none := I.ok.hd hc
    have W := GoesN.zip2 (elts := elts) (x1 := kk) (pos := tpos) S (draws_sq (prog := X.prog) (w := X.w) t1 hh i1 a ha its.toArray) (draws_sq (prog := X.prog) (w := X.w) t2 hh i2 b hb its2.toArray)
    have hin : i = min its.toArray.size its2.toArray.size := by simp; omega
    rw [hin] at e1 e2
    exact W.stops s (fun s1 => Inv X pins σ H s1) E ⟨hz, hTI, hTO, ⟨e1, p1⟩, ⟨e2, p2⟩⟩ fun h' tk hk htk => I.turnedL (t' := tk) (ch := [z, TI, TO, i1, i2]) (fun c o hb q => hk c o (by simp at hb ⊢; exact ⟨hb.1, hb.2.2.1, hb.2.2.2.1, hb.2.2.2.2⟩) q) hf
  self := fun A i s Q E st h => wpAny_pyIter_zip st.2.1 h
def iZipB (K : PySem.W.Frag) (t1 t2 : Bool) (ta : TA) : TI := fun σ H R => ta σ H fun vs H1 => ∃ a b xs ys, vs = [.ref a, .ref b] ∧ SqB t1 K H1 a xs ∧ SqB t2 K H1 b ys ∧ R (ItzB K t1 t2 a b (min xs.length ys.length)) H1
theorem pi_zipB {X : Cx} {e e2 : Expr} {ta : TA} {p pos tpos : Pos} {elts : List Expr} {kk : Nat} {t1 t2 : Bool} (hg : Gl X "zip") (hm : X.mg "zip" = none) (ha : PA X [e, e2] ta)
    (hs : starEach [e, e2] X.env = (false, eval e X.env) :: starEach [e2] X.env := by rfl) (hpl : (backTo pos (starEach [e2] X.env)).any (·.1) = false := by rfl) :
    PI X (.Tuple elts kk tpos) (.Call (.Name "zip" p) [e, e2] [] pos) (iZipB X.K t1 t2 ta) := by
  refine ⟨fun pins s σ H R I h => ?_⟩
  refine Call_ (ld_blt I hg hm PyProof.Rows.boot_zip (PyProof.Rows.callWith_type1 (thn (ha.run pos pins s σ H _ I h) fun us s1 ⟨vs, H1, I1, r1, q1⟩ => ?_) hs hpl))
  obtain ⟨a, b, xs, ys, ex, hqx, hqy, q⟩ := q1
  subst ex
  cases r1 with
  | cons r rr =>
  cases rr with
  | cons r' rr =>
  cases rr
  cases r
  cases r'
  obtain ⟨its, rv, p1, la⟩ := inv_sq I1 hqx
  obtain ⟨its2, rv2, p2, lb⟩ := inv_sq I1 hqy
  generalize hN : s1.heap.objs.size = N at la lb
  refine zip_begins2 (begins_sq t1 a its.toArray) (begins_sq t2 b its2.toArray) p1 p2 fun h' hz hTI hTO h1 h2 hsz hk => wpAny_pyIter_zip hz ?_
  have I2 : Inv X pins σ H1 { s1 with heap := h' } := I1.kept (t' := s1.toks) hk
  rw [hN] at hz hTI hTO h1 h2 ⊢
  have ne : ∀ {x y : Nat}, x < y → x ≠ y := fun h => Nat.ne_of_lt h
  have S : ZipSep2 (N + 4) (N + 2) (N + 3) N (N + 1) [N, a] [N + 1, b] := zip_sep2 (fun c h => by rw [List.mem_singleton.mp h]; exact la) (fun c h => by rw [List.mem_singleton.mp h]; exact lb)
  refine ⟨N + 4, [N + 4, N + 2, N + 3, N, N + 1], ZTn t1 t2 a b (N + 4) (N + 2) (N + 3) N (N + 1) (min xs.length ys.length), _, H1, rfl, I2, turn_zipB S (ne la) (ne (Nat.lt_succ_of_lt lb)), ⟨Nat.zero_le _, hz, hTI, ⟨_, _, hTO⟩, seq_iter h1, seq_iter h2⟩, fun c hcm => ?_, q⟩
  have e' : c = N + 4 ∨ c = N + 2 ∨ c = N + 3 ∨ c = N ∨ c = N + 1 := by simpa using hcm
  have hle : N ≤ c := by rcases e' with rfl | rfl | rfl | rfl | rfl <;> omega
  rw [← hN] at hle
  exact I1.fpOk hle (I1.hok.fresh hle)
def seqD (t : Bool) (ds : List PyData) : PyData := match t with | true => .tuple ds | false => .list ds
theorem Dt.seqs {t : Bool} {K : PySem.W.Frag} {B : Hp} {v : V} {ds : List PyData} (h : Dt K B v (seqD t ds)) : ∃ a xs, v = .ref a ∧ SqB t K B a xs ∧ DtA K B xs ds := by
  cases t with
  | true => cases h with | tup hs hx => exact ⟨_, _, rfl, hs, hx⟩
  | false => cases h with | lst hs hx => exact ⟨_, _, rfl, hs, hx⟩
theorem sqb_ex {t : Bool} {K : PySem.W.Frag} {B H : Hp} {a : Addr} {xs : List V} (e : Ex B H) (h : SqB t K B a xs) : SqB t K H a xs := by
  cases t with
  | true => exact ex_t e h
  | false => exact ex_l e h
theorem sqb_dta {t : Bool} {K : PySem.W.Frag} {B : Hp} {a : Addr} {ds : List PyData} (h : Dt K B (.ref a) (seqD t ds)) : ∃ xs, SqB t K B a xs ∧ DtA K B xs ds := by
  obtain ⟨a', xs, e, h1, h2⟩ := h.seqs
  cases e
  exact ⟨xs, h1, h2⟩
section
variable {S : Sh} {ρ : List Sl} {e e2 : Expr} {pos : Pos}
theorem iw_zipB {elts : List Expr} {kk : Nat} {tpos p : Pos} (t1 t2 : Bool) {ds es : List PyData} (hm : S.mg "zip" = none) (ha : VE S ρ e (.im (seqD t1 ds))) (hb : VE S ρ e2 (.im (seqD t2 es))) (hg : S.sc.names.lookup ("zip" : Str) = some .globalImplicit := by rfl)
    (hse : ∀ X : Cx, starEach [e, e2] X.env = (false, eval e X.env) :: starEach [e2] X.env := by intro _; rfl) (hse2 : ∀ X : Cx, starEach [e2] X.env = (false, eval e2 X.env) :: starEach [] X.env := by intro _; rfl) (hpl : ∀ X : Cx, (backTo pos (starEach [e2] X.env)).any (·.1) = false := by intro _; rfl) :
    IW S ρ (.Tuple elts kk tpos) (.Call (.Name "zip" p) [e, e2] [] pos) (min ds.length es.length) (fun i => .tuple [ds.getD i .none, es.getD i .none]) := fun C τ vs σ H k l R q =>
  ⟨iZipB S.K t1 t2 (tCons (wE S e) (tCons (wE S e2) tNil)), fun X hX => by rw [← hX.K]; exact pi_zipB (by show X.env.scope.names.lookup _ = _; rw [hX.sc]; exact hg) (by rw [hX.mg]; exact hm) (pa_cons (wE_pe hX) (pa_cons (wE_pe hX) pa_nil (hse2 X)) (hse X)) (hse X) (hpl X), ha C τ vs σ H k l _ fun v H1 k1 => hb C (_ :: τ) (some v :: vs) σ H1 k1 (congrArg (· + 1) l) _ fun w H2 k2 => by
    obtain ⟨B, G, fp, k3, hd1, hd2⟩ := Ok.two k2
    obtain ⟨a, xs, rfl, hs, hx⟩ := hd1.seqs
    obtain ⟨b, ys, rfl, ht, hy⟩ := hd2.seqs
    have l1 := hx.len
    have l2 := hy.len
    refine ⟨a, b, xs, ys, rfl, sqb_ex k3.bh hs, sqb_ex k3.bh ht, q (ItzB S.K t1 t2 a b _) H2 [_, _] [_, _] rfl (fun s hs => by simp at hs; rcases hs with hs | hs <;> (subst hs; rfl)) k2 fun i l os H2 k2 => ?_⟩
    obtain ⟨B, G, fp, k3, hd1, hd2⟩ := Ok.two k2
    obtain ⟨xs2, hs, hx⟩ := sqb_dta hd1
    obtain ⟨ys2, ht, hy⟩ := sqb_dta hd2
    have hs2 := sqb_ex k3.bh hs
    have ht2 := sqb_ex k3.bh ht
    have l3 := hx.len
    have l4 := hy.len
    refine ⟨fun hi => ⟨⟨by omega, xs2, ys2, hs2, ht2, by omega⟩, fun z H3 y => ?_⟩, fun hi => ⟨by omega, xs2, ys2, hs2, ht2, by omega⟩⟩
    obtain ⟨T, x, y, rfl, hT, rfl, y1, y2⟩ := y
    obtain ⟨d1, h1, h1'⟩ := hx.getV (y1 xs2 hs2)
    obtain ⟨d2, h2, h2'⟩ := hy.getV (y2 ys2 ht2)
    dsimp only
    rw [getD_some h1, getD_some h2]
    exact k3.pair hT h1' h2'⟩
theorem ix_zipB {α β : Type} {elts : List Expr} {kk : Nat} {tpos p : Pos} (t1 t2 : Bool) {xs : List α} {ys : List β} {f : α → PyData} {g : β → PyData} (hm : S.mg "zip" = none) (ha : VE S ρ e (.im (seqD t1 (xs.map f)))) (hb : VE S ρ e2 (.im (seqD t2 (ys.map g)))) (hg : S.sc.names.lookup ("zip" : Str) = some .globalImplicit := by rfl)
    (hse : ∀ X : Cx, starEach [e, e2] X.env = (false, eval e X.env) :: starEach [e2] X.env := by intro _; rfl) (hse2 : ∀ X : Cx, starEach [e2] X.env = (false, eval e2 X.env) :: starEach [] X.env := by intro _; rfl) (hpl : ∀ X : Cx, (backTo pos (starEach [e2] X.env)).any (·.1) = false := by intro _; rfl) :
    IX S ρ (.Tuple elts kk tpos) (.Call (.Name "zip" p) [e, e2] [] pos) ((xs.zip ys).map fun q => .tuple [f q.1, g q.2]) := by
  refine iw_eq (iw_zipB t1 t2 hm ha hb hg hse hse2 hpl) (by simp) fun i hi => ?_
  simp only [List.length_map] at hi
  have h1 : i < xs.length := by omega
  have h2 : i < ys.length := by omega
  rw [List.getD_eq_getElem?_getD, List.getD_eq_getElem?_getD, List.getD_eq_getElem?_getD, List.getElem?_map, List.getElem?_map, List.getElem?_map, List.getElem?_eq_getElem h1, List.getElem?_eq_getElem h2, List.getElem?_eq_getElem (by simp; omega)]
  simp
end
end Kd

set_option Elab.async false
set_option linter.all false
set_option maxRecDepth 100000
/-! KeJ: a def whose last parameter is written by name or left at its default, a whole number. -/
namespace Kd
open PySem L2 PySem.Spec PyProof.Rows
open Evl (Ex ex_l ex_t ex_rd fresh_back)
def DefKD (M : Md) (x : Str) (st : Stmt) (ps : List Str) (n : Nat) (kn : Str) (v : Int) : Prop :=
  ∃ f fd, Fun M.K x x st f fd ∧ M.mg x = some (.ref f) ∧ KBn M.K fd ps n [kn] (fun us ws => us ++ ws) (fun vs zs => vs ++ zs) ∧ ∃ us, Vals [V.int v] us ∧ Binds M.K fd ps us
theorem defkd_mk {M : Md} {h : Heap} {x : Str} {st : Stmt} {ps : List Str} {n : Nat} {kn : Str} {v : Int} {t : Tok} {f D : Addr} {oc : Value} {od an : Option Addr} {sl : Array (Option Value)} {dc pm cd ct : Value} (X : M.K.In h) (G : h.Ns mainGlobals M.mg)
    (a : PySem.W.nsIn M.K mainGlobals x = some (some (.ref f))) (l : M.K.lookup f = some ⟨oc, od, .func (PySem.W.fnOf x x (defArgs st) (defBody st) (defScope st) .none (.ref D) dc pm an cd ct), sl⟩) (c : PySem.W.codeIn M.K cd x = true) (k : PySem.W.keepIn M.K (.ref f) = true)
    (q : PySem.W.nsIn M.K D kn = some (some (.int v t))) (hn : n + 1 = ps.length)
    (hb : ∀ (kV doc pm : Value) (an : Option Addr) (cdv ct : Value) (us ws : List Value), us.length = n → ws.length = [kn].length → bindArgs (PySem.W.fnOf x x (defArgs st) (defBody st) (defScope st) .none kV doc pm an cdv ct) ⟨us, [kn].zip ws⟩ = pure (ps.zip (us ++ ws)))
    (hb0 : ∀ (D : Addr) (doc pm : Value) (an : Option Addr) (cdv ct u : Value) (us : List Value), us.length = n → KwChain D [(kn, u)] (bindArgs (PySem.W.fnOf x x (defArgs st) (defBody st) (defScope st) .none (.ref D) doc pm an cdv ct) ⟨us, []⟩) (ps.zip (us ++ [u]))) : DefKD M x st ps n kn v :=
  ⟨f, _, fun_mk l c k, PySem.W.mg_of X G a, ⟨fun s us ws _ l1 l2 => .of_eq (hb (.ref D) dc pm an cd ct us ws l1 l2), fun r1 r2 => r1.append r2⟩, [.int v t], .cons ⟨t, rfl⟩ .nil, fun s us Y hl => BindsTo.of_looks fun M' => KwChain.looks Y (fun p hp => by
      rw [List.mem_singleton.mp hp]
      exact q) (hb0 D dc pm an cd ct (.int v t) us (by rw [List.length_append] at hl; simp at hl; omega))⟩
def FnKD (M : Md) (k : Nat) (x : Str) (n : Nat) (kn : Str) (v : Int) (G : List PyData → Oc → Prop) : Prop :=
  ∃ f fd ps us, FnOk M.P M.w M.K M.mg M.base (L2N.CX M.P M.w) k f fd ps (spG M.K M.mg G) ∧ M.mg x = some (.ref f) ∧ PySem.W.keepIn M.K (.ref f) = true ∧ KBn M.K fd ps n [kn] (fun us ws => us ++ ws) (fun vs zs => vs ++ zs) ∧ Vals [V.int v] us ∧ Binds M.K fd ps us
theorem FnKD.kw {M : Md} {k : Nat} {x : Str} {n : Nat} {kn : Str} {v : Int} {G : List PyData → Oc → Prop} (h : FnKD M k x n kn v G) : FnK M k x n [kn] G := by
  obtain ⟨f, fd, ps, us, h1, h2, h3, h4, _⟩ := h
  exact ⟨f, fd, ps, h1, h2, h3, h4⟩
theorem fnkd_ok {M : Md} {x qual : Str} {st : Stmt} {f : Addr} {fd : FuncData} {N ps : List Str} {k n : Nat} {kn : Str} {v : Int} {us : List Value} {G : List PyData → Oc → Prop} (F : Fun M.K x qual st f fd) (hm : M.mg x = some (.ref f)) (hb : KBn M.K fd ps n [kn] (fun us ws => us ++ ws) (fun vs zs => vs ++ zs)) (hv : Vals [V.int v] us) (hb0 : Binds M.K fd ps us) (sc : FnScope N ps (defScope st)) (len : ∀ ds o, G ds o → ds.length = ps.length)
    (body : ∀ E ds o, G ds o → RB (M.sh N (defScope st) k E) (slots N.length ds) (defBody st) (Pst.of o)) : FnKD M (k + 1) x n kn v G := ⟨f, fd, ps, us, fn_run F sc len body, hm, F.kp, hb, hv, hb0⟩
section
variable {S : Sh} {fl : Bool} {ρ : List Sl} {e : Expr} {es : List Expr} {pos p : Pos} {X : Str → Prop} {Q : Sl → List Sl → Prop}
theorem ce_callD {x kn : Str} {k n : Nat} {v : Int} {G : List PyData → Oc → Prop} (hF : FnKD S.toMd k x n kn v G) (h : CI S fl ρ (e :: es) X fun ds ρ1 => CallG G (ds ++ [.int v]) (fun d => Q (.im d) ρ1) X) (hk : k ≤ S.k := by walk_at "kd lvl") (hg : S.sc.names.lookup x = some .globalImplicit := by rfl)
    (hdb : (x == ("__debug__" : Str)) = false := by decide)
    (he : ∀ X : Cx, starEach (e :: es) X.env = (false, eval e X.env) :: starEach es X.env := by intro _; rfl) (hpl : ∀ X : Cx, (backTo pos (starEach es X.env)).any (·.1) = false := by intro _; rfl) : CE S fl ρ (.Call (.Name x p) (e :: es) [] pos) X Q := by
  obtain ⟨f, fd, ps, us, F, hm, hkp, _, hv, hb⟩ := hF
  intro C τ vs σ H kk l nv QQ qq xx
  refine ⟨tCall (spG S.K S.mg G) [.int v] S.E (wA S (e :: es)), fun X hX => ?_, h C τ vs σ H kk l nv _ (fun ds ρ1 ws H1 z lw k1 => ?_) xx⟩
  · refine pe_call (CX := L2N.CX S.P S.w) (k := k) (f := f) (fd := fd) (ps := ps) (ds := us) ?_ (hX.room.mono hk) (by show X.env.scope.names.lookup x = _; rw [hX.sc]; exact hg) (by rw [hX.mg]; exact hm) (by rw [hX.K]; exact hkp) (by rw [hX.K]; exact hb) hv (pass_S hX) (wA_pa hX) hdb (he X) (hpl X)
    rw [hX.prog, hX.w, hX.K, hX.mg, hX.base]
    exact F
  · obtain ⟨B, G', fp, k2, hd⟩ := k1.rev lw
    obtain ⟨oc, hG, h3⟩ := z
    have hd2 : DtA S.K B (ws ++ [.int v]) (ds ++ [.int v]) := hd.app (.cons (.int v) .nil)
    cases oc with
    | ret d =>
      refine ⟨B, ds ++ [.int v], .ret d, hG, k2.bh, hd2, fun v H' B' b h e n hv => qq _ _ v H' h3 ?_⟩
      obtain ⟨G', k3⟩ := k2.back b h e n
      exact k3.put hv
    | exc c =>
      exact ⟨B, ds ++ [.int v], .exc c, hG, k2.bh, hd2, fun H' cv e m => xx c cv ρ1 H' h3 m ⟨B, G', fp, k2.grow e⟩⟩
end
end Kd

set_option Elab.async false
set_option linter.all false
set_option maxRecDepth 100000
/-! KeK: try: body, except x: return None -/
namespace Kd
open PySem L2 PySem.Spec PyProof.Rows
open Evl (Ex ex_l ex_t ex_rd fresh_back)
section
variable {S : Sh} {ρ : List Sl} {P : Pst} {body : List Stmt} {pos pos' : Pos}
theorem rs_tryN {x : Str} {j : Nat} {np cp rp : Pos} (PX : Str → Prop) (hc : ∃ c, S.mg x = some (.ref c))
    (wh : ∀ c, PX c → ExmIn S.toMd c x true ∧ ∀ ρ, P.rt (.im .none) ρ) (hb : ∀ E, RB (S.wE E) ρ body { P with ex := PX })
    (hfa : S.fa = true := by rfl) (hgx : S.sc.names.lookup x = some .globalImplicit := by rfl) (d1 : (x == ("__debug__" : Str)) = false := by decide) :
    RS S ρ (.Try body [.ExceptHandler (some (.Name x np)) none [.Return (some (.Constant .none j cp)) rp] pos'] [] [] pos) P := by
  obtain ⟨c, hc⟩ := hc
  refine rs_of (t := fun D σ H => wB (S.wE (EW S (L2.wMany S.K (fun cls d _ H => S.E cls d H) D [(.ref c, tSuite S [.Return (some (.Constant .none j cp)) rp])]))) body D σ H) (fun X hX => ?_) fun C τ vs σ H D kk l nv m => ?_
  · have hs := hX.sk hfa
    rw [← hX.K]
    refine L2N.ps_try_many (tb := fun W => wB (S.wE (EW S W)) body) hs.1 hs.2 hX.tk (fun W pn xe tk po => ?_) (.cons ⟨by show X.env.scope.names.lookup x = _; rw [hX.sc]; exact hgx, d1, .inl (by rw [hX.mg]; exact hc)⟩ (fun a oe cls d pn hz hf => ?_) .nil)
    · refine wB_pss (S := S.wE (EW S W)) (X := X.tr pn xe) ⟨hX.prog, hX.w, hX.K, hX.mg, hX.base, hX.N, hX.sc, hX.calm, hX.room, fun u s' z => ?_, po, hX.fn, hX.sk⟩
      obtain ⟨a, B, sI, pins, σ', H', cls, d, e, J, nb, up, sky, na, os, ag, w⟩ := z
      exact tk u s' ⟨a, B, sI, pins, σ', H', cls, d, e, J, nb, up, sky, na, os, ag, w σ' (by have := J.len; rw [this]; show X.N.length = _; rw [hX.N])⟩
    · exact ⟨fun pins s σ H D J ⟨t, ht, z⟩ => (ht X oe pn hX hz hf).run pins s σ H D J z⟩
  · refine hb _ C τ vs σ H D kk l nv ⟨m.nx, m.rt, m.bk, m.ct, fun cc cv ρ1 σ1 H1 hcc hcv k1 => ?_⟩
    obtain ⟨⟨D1, C1, m1, m2, hex⟩, hrt⟩ := wh cc hcc
    rw [hc] at m2
    cases m2
    have e1 : cv = .ref D1 := by
      have z := hcv.symm.trans m1
      exact Option.some.inj z
    subst e1
    intro σ2 hl2
    refine ⟨true, hex, fun _ a ha => ⟨tRet (tC .non), fun X oe pn hX hz hf => pss_one (ps_ret pe_non), ?_⟩, fun z => nomatch z⟩
    exact m.rt _ ρ1 _ σ1 H1 (hrt ρ1) (k1.flat .non)
end
end Kd

set_option Elab.async false
set_option linter.all false
set_option maxRecDepth 100000
/-! KeL: list(range(a, b)); min and max as such -/
namespace Kd
open PySem L2 PySem.Spec PyProof.Rows
open Evl (Ex ex_l ex_t ex_rd fresh_back)
theorem vals_rng {a : Int} : ∀ {n : Nat} {us : List Value}, us.length = n → (∀ (i : Nat) v, us[i]? = some v → ∃ t, v = .int (a + i * 1) t) → Vals ((List.range n).map fun k => V.int (a + (k : Nat))) us := by
  intro n us hl h
  induction us generalizing a n with
  | nil =>
    cases hl
    exact .nil
  | cons u us ih =>
    cases hl
    rw [List.length_cons, List.range_succ_eq_map, List.map_cons, List.map_map]
    obtain ⟨t, rfl⟩ := h 0 u rfl
    refine .cons ⟨t, by simp⟩ ?_
    have := ih (a := a + 1) (n := us.length) rfl fun i v hv => by
      obtain ⟨t, rfl⟩ := h (i + 1) v hv
      exact ⟨t, by congr 1; omega⟩
    have e : ((fun k : Nat => V.int (a + (k : Nat))) ∘ Nat.succ) = fun k : Nat => V.int (a + 1 + (k : Nat)) := by
      funext k
      show V.int _ = V.int _
      congr 1
      show a + ((k + 1 : Nat) : Int) = _
      omega
    rw [e]
    exact this
def tLR (ta : TA) : TE := fun σ H Q => ta σ H fun vs H1 => ∃ i j : Int, vs = [.int i, .int j] ∧ (-50000 ≤ i ∧ i ≤ 50000 ∧ -50000 ≤ j ∧ j ≤ 50000) ∧ ∀ l, H1 l = none → Q (.ref l) (upd H1 l (.lst ((List.range (j - i).toNat).map fun k => V.int (i + (k : Nat)))))
theorem pe_listRng {X : Cx} {a b : Expr} {ta : TA} {p p2 pos pos2 : Pos} (hc : X.calm = true) (hg : Gl X "list") (hm : X.mg "list" = none) (hg2 : Gl X "range") (hm2 : X.mg "range" = none) (ha : PA X [a, b] ta)
    (hs : starEach [a, b] X.env = [(false, eval a X.env), (false, eval b X.env)] := by rfl) (hs1 : starEach [b] X.env = [(false, eval b X.env)] := by rfl)
    (hs2 : starEach [.Call (.Name "range" p2) [a, b] [] pos2] X.env = (false, eval (.Call (.Name "range" p2) [a, b] [] pos2) X.env) :: starEach [] X.env := by rfl) :
    PE X (.Call (.Name "list" p) [.Call (.Name "range" p2) [a, b] [] pos2] [] pos) (tLR ta) := by
  refine ⟨fun pins s σ H Q I h => ?_⟩
  refine Call_ (ld_blt I hg hm boot_list (PyProof.Rows.callWith_type1 (args_cons (Call_ (ld_blt I hg2 hm2 boot_range (PyProof.Rows.callWith_type1 (thn (ha.run pos2 pins s σ H _ I h) fun us s1 ⟨vs, H1, I1, r1, q1⟩ => ?_) (by rw [hs, hs1]) (by rw [hs1]; rfl)))) hs2) hs2 rfl))
  obtain ⟨i, j, e, ⟨b1, b2, b3, b4⟩, q⟩ := q1
  subst e
  cases r1 with
  | cons r rr =>
  cases rr with
  | cons r' rr =>
  cases rr
  obtain ⟨t, rfl⟩ := r
  obtain ⟨t', rfl⟩ := r'
  refine call_range_2 (args_nil ?_)
  have I2 : Inv X pins σ H1 { s1 with heap := s1.heap.push { cls := .type "range", data := .fields #[.int i t, .int j t', .int 1 s1.toks] }, toks := s1.toks + 1 } := I1.kept fun b o e => Heap.get?_push_of_some _ e
  refine call_list_range (n := (j - i).toNat) (I1.ok.hd hc) (IsRange.new ..) (small_one (by omega) (by omega) (by omega) (by omega)) (by rw [rangeSize_one]; split <;> omega) (by omega) fun h' tk acc c' hk hD hI => ?_
  refine ⟨.ref _, upd H1 _ (.lst ((List.range (j - i).toNat).map fun k => V.int (i + (k : Nat)))), I2.laid (t' := tk) hk (Nat.le_refl _) ⟨?_, acc.toList, c', vals_rng (by rw [Array.length_toList]; exact hI.1) (fun k v hv => hI.2 k v (by rw [← hv, Array.getElem?_toList])), ?_⟩, rfl, q _ (I2.hok.fresh (Nat.le_refl _))⟩
  · rw [List.length_map, List.length_range]
    exact Evl.sz_of (by omega)
  · rw [Array.toArray_toList]
    exact hD
section
variable {S : Sh} {fl : Bool} {ρ : List Sl} {a b : Expr} {pos p pos2 p2 : Pos} {X : Str → Prop} {Q : Sl → List Sl → Prop}
theorem dta_ints {K : PySem.W.Frag} {B : Hp} {α : Type} (f : α → Int) : ∀ l : List α, DtA K B (l.map fun k => V.int (f k)) (l.map fun k => PyData.int (f k))
  | [] => .nil
  | _ :: l => .cons (.int _) (dta_ints f l)
theorem ce_listRng {x y : Str} (hx : x = "list") (hy : y = "range") (hm : S.mg "list" = none) (hm2 : S.mg "range" = none) (h : CA S fl ρ [a, b] X fun rs ρ1 => ∃ i j : Int, rs = [.im (.int i), .im (.int j)] ∧ (-50000 ≤ i ∧ i ≤ 50000 ∧ -50000 ≤ j ∧ j ≤ 50000) ∧ Q (.ow ((List.range (j - i).toNat).map fun k => .int (i + (k : Nat)))) ρ1)
    (hg : S.sc.names.lookup ("list" : Str) = some .globalImplicit := by rfl) (hg2 : S.sc.names.lookup ("range" : Str) = some .globalImplicit := by rfl)
    (hs : ∀ X : Cx, starEach [a, b] X.env = [(false, eval a X.env), (false, eval b X.env)] := by intro _; rfl) (hs1 : ∀ X : Cx, starEach [b] X.env = [(false, eval b X.env)] := by intro _; rfl)
    (hs2 : ∀ X : Cx, starEach [.Call (.Name "range" p2) [a, b] [] pos2] X.env = (false, eval (.Call (.Name "range" p2) [a, b] [] pos2) X.env) :: starEach [] X.env := by intro _; rfl) :
    CE S fl ρ (.Call (.Name x p) [.Call (.Name y p2) [a, b] [] pos2] [] pos) X Q := by
  subst hx hy
  exact fun C τ vs σ H k l nv QQ qq xx =>
  ⟨tLR (wA S [a, b]), fun X hX => pe_listRng hX.calm (by show X.env.scope.names.lookup _ = _; rw [hX.sc]; exact hg) (by rw [hX.mg]; exact hm) (by show X.env.scope.names.lookup _ = _; rw [hX.sc]; exact hg2) (by rw [hX.mg]; exact hm2) (wA_pa hX) (hs X) (hs1 X) (hs2 X),
    h C τ vs σ H k l nv _ (fun rs ρ1 ws H1 z lw k1 => by
      obtain ⟨i, j, rfl, hb, hq⟩ := z
      match ws, lw with
      | [v1, v2], _ =>
        have e2 := Ok.int (show Ok S.K C (.im (.int j) :: _) (some v2 :: _) H1 from k1)
        have e1 := Ok.int (show Ok S.K C (.im (.int i) :: _) (some v1 :: _) H1 from k1.tail)
        subst e1 e2
        refine ⟨i, j, rfl, hb, fun l hl => ?_⟩
        obtain ⟨B, G, fp, k2⟩ := k1.tail.tail
        exact qq _ _ _ _ hq (k2.putOwn hl (dta_ints _ _))) xx⟩
theorem cd_min2m {i j : Int} : CD S (.builtin "min") [.im (.int i), .im (.int j)] (.im (.int (min i j))) := by
  have := cd_min2 (S := S) (i := i) (j := j)
  rw [show (if j < i then j else i) = min i j by rw [Int.min_def]; split <;> split <;> omega] at this
  exact this
theorem cd_max2m {i j : Int} : CD S (.builtin "max") [.im (.int i), .im (.int j)] (.im (.int (max i j))) := by
  have := cd_max2 (S := S) (i := i) (j := j)
  rw [show (if j > i then j else i) = max i j by rw [Int.max_def]; split <;> split <;> omega] at this
  exact this
end
end Kd

set_option Elab.async false
set_option linter.all false
set_option maxRecDepth 100000
/-! KeM: sorted of a list of data. -/
namespace Kd
open PySem L2 PySem.Spec PyProof.Rows
open Evl (Ex ex_l ex_t ex_rd fresh_back)
theorem each_zipV : ∀ {vs : List V} {us : List Value} {ds : List PyData}, Vals vs us → ds.length = vs.length → PySem.W.EachIs (fun (v : Value) (b : PyData × V) => RelV b.2 v) us (ds.zip vs)
  | _, _, [], .nil, _ => .nil
  | _, _, d :: ds, .cons r t, h => .cons r (each_zipV t (by simpa using h))
  | _, _, _ :: _, .nil, h => by simp at h
  | _, _, [], .cons _ _, h => by simp at h
theorem each_zipR {h : Heap} : ∀ {ds : List PyData} {vs : List V} {us : List Value} {as : List Addr}, ReadsAll h us ds as → ds.length = vs.length → PySem.W.EachIs (fun (v : Value) (b : PyData × V) => ∃ as, Reads h v b.1 as) us (ds.zip vs)
  | [], [], _, _, r, _ => by cases r; exact .nil
  | d :: ds, v :: vs, _, _, r, e => by
    cases r with
    | cons h1 h2 => exact .cons ⟨_, h1⟩ (each_zipR h2 (by simpa using e))
  | [], _ :: _, _, _, _, e => by simp at e
  | _ :: _, [], _, _, _, e => by simp at e
theorem vals_each : ∀ {us : List Value} {z : List (PyData × V)}, PySem.W.EachIs (fun (v : Value) (b : PyData × V) => RelV b.2 v) us z → Vals (z.map (·.2)) us
  | _, _, .nil => .nil
  | _, _, .cons r t => .cons r (vals_each t)
def srtD (ds : List PyData) : List PyData := ds.mergeSort (PySem.W.dataLe false id)
def rSrtD (K : PySem.W.Frag) : List V → Hp → VK → Prop := fun xs H Q => ∃ (a : Addr) (vs : List V) (ds : List PyData), xs = [.ref a] ∧ SqL K H a vs ∧ DpAll K H vs ds ∧ ds.length = vs.length ∧ PySem.W.AllAlike ds ∧ PySem.W.Sortable ds ∧ PyData.depthAll ds ≤ 50 ∧
  ∀ (z : List (PyData × V)) (p : Addr), z.Perm (ds.zip vs) → z.map (·.1) = srtD ds → H p = none → Q (.ref p) (upd H p (.lst (z.map (·.2))))
theorem depth_mem : ∀ {ds : List PyData} {d : PyData}, d ∈ ds → d.depth ≤ PyData.depthAll ds
  | x :: xs, d, h => by
    simp only [PyData.depthAll]
    rcases List.mem_cons.mp h with rfl | h
    · omega
    · have := depth_mem h; omega
theorem call_srtD {X : Cx} (hr : X.A.units + 64 < cLine) : CallR X (.builtin "sorted") (rSrtD X.K) := by
  intro pins s σ H xs us Q I r h
  obtain ⟨a, vs, ds, rfl, hs, hd, hlen, ha, hk, hdp, q⟩ := h
  rw [Vals.ref1 r]
  obtain ⟨its, rv, pl, hz⟩ := I.list hs
  obtain ⟨as, hra⟩ := Dp.readsAll I _ _ its hd rv
  have e1 : (ds.zip vs).map (fun b : PyData × V => b.1) = ds := List.map_fst_zip (by omega)
  have e2 : (ds.zip vs).length = vs.length := by rw [List.length_zip]; omega
  refine PySem.W.sorted_data (R := fun (v : Value) (b : PyData × V) => RelV b.2 v) (enc := fun b : PyData × V => b.1) (bs := ds.zip vs) pl.isList (each_zipV rv hlen) (each_zipR hra hlen) (by rw [e1]; exact ha) (by rw [e1]; exact hk) (by rw [e2]; exact hz) (fun b hb => ?_) fun out ho hO => ?_
  · have := depth_mem (List.of_mem_zip (show (b.1, b.2) ∈ ds.zip vs from hb)).1
    omega
  · obtain ⟨ep, he'⟩ := PyProof.Rows.sortedAll_at s.heap its out.toArray
    have hp : ((ds.zip vs).mergeSort (PySem.W.dataLe false fun b : PyData × V => b.1)).Perm (ds.zip vs) := List.mergeSort_perm _ _
    have hl2 : (((ds.zip vs).mergeSort (PySem.W.dataLe false fun b : PyData × V => b.1)).map (·.2)).length ≤ sizeLine := by
      rw [List.length_map, hp.length_eq, e2]
      exact hz
    refine ⟨.ref _, upd H (s.heap.objs.size + 1) (.lst (((ds.zip vs).mergeSort (PySem.W.dataLe false fun b : PyData × V => b.1)).map (·.2))), I.laid (t' := s.toks) (fun _ _ => PyProof.Rows.sortedAll_old) (Nat.le_succ _) ⟨hl2, out, ep, vals_each hO, he'⟩, rfl, q _ _ hp ?_ (I.hok.fresh (Nat.le_succ _))⟩
    unfold srtD
    conv => rhs; rw [← e1]
    exact List.map_mergeSort fun a _ b _ => rfl
theorem DtA.ofMem {K : PySem.W.Frag} {H : Hp} : ∀ {z : List (PyData × V)}, (∀ b ∈ z, Dt K H b.2 b.1) → DtA K H (z.map (·.2)) (z.map (·.1))
  | [], _ => .nil
  | b :: z, h => .cons (h b List.mem_cons_self) (DtA.ofMem fun c hc => h c (List.mem_cons_of_mem _ hc))
theorem DtA.mem {K : PySem.W.Frag} {H : Hp} : ∀ {vs : List V} {ds : List PyData}, DtA K H vs ds → ∀ b ∈ ds.zip vs, Dt K H b.2 b.1
  | _, _, .nil, b, h => by simp at h
  | _, _, .cons r t, b, h => by
    rcases List.mem_cons.mp h with rfl | h
    · exact r
    · exact DtA.mem t b h
section
variable {S : Sh} {s1 : Sl}
/-- sorted(xs) -/
theorem cd_srtD {ds : List PyData} (h1 : s1 = .im (.list ds) ∨ s1 = .al ds ∨ s1 = .ow ds) (n : noDictA ds = true) (ha : PySem.W.AllAlike ds) (hk : PySem.W.Sortable ds) (hdp : PyData.depthAll ds ≤ 50) : CD S (.builtin "sorted") [s1] (.ow (srtD ds)) :=
  cd_of1 (r := rSrtD S.K) (fun X hX => by rw [← hX.K]; exact call_srtD hX.room.units) fun C l os v H k Q q => by
    obtain ⟨B, G, fp, p, xs, k2, rfl, hs, hd⟩ := items_of k h1
    refine ⟨p, xs, ds, rfl, hs, DtA.dp _ _ n (hd.up k2.bh), hd.len.symm, ha, hk, hdp, fun z t hz hm ht => q _ _ (k2.putOwn ht ?_)⟩
    rw [← hm]
    exact DtA.ofMem fun b hb => hd.mem b (hz.mem_iff.mp hb)
end
/-! ints -/
def srtI (ns : List Int) : List Int := ns.mergeSort fun a b => decide (a ≤ b)
theorem srtD_map {β : Type} (enc : β → PyData) (bs : List β) : srtD (bs.map enc) = (bs.mergeSort (PySem.W.dataLe false enc)).map enc := by
  unfold srtD
  exact (List.map_mergeSort (f := enc) (r := PySem.W.dataLe false enc) (s := PySem.W.dataLe false id) fun a _ b _ => rfl).symm
theorem srtD_ints (ns : List Int) : srtD (ns.map .int) = (srtI ns).map .int := by
  rw [srtD_map, PySem.W.dataLe_int fun b => b]
  rfl
theorem noDict_map {β : Type} {enc : β → PyData} (h : ∀ b, noDict (enc b) = true) : ∀ bs : List β, noDictA (bs.map enc) = true
  | [] => rfl
  | b :: bs => by
    show (noDict (enc b) && noDictA (bs.map enc)) = true
    rw [h b, noDict_map h bs]
    rfl
theorem depth_map {β : Type} {enc : β → PyData} {n : Nat} (h : ∀ b, (enc b).depth ≤ n) : ∀ bs : List β, PyData.depthAll (bs.map enc) ≤ n
  | [] => by simp [PyData.depthAll]
  | b :: bs => by
    have h1 := h b
    have h2 := depth_map h bs
    simp only [List.map_cons, PyData.depthAll]
    omega
section
variable {S : Sh} {s1 : Sl}
theorem cd_srtI {ns : List Int} (h1 : s1 = .im (.list (ns.map .int)) ∨ s1 = .al (ns.map .int) ∨ s1 = .ow (ns.map .int)) : CD S (.builtin "sorted") [s1] (.ow ((srtI ns).map .int)) := by
  rw [← srtD_ints]
  exact cd_srtD h1 (noDict_map (fun _ => rfl) _) (PySem.W.AllAlike.of fun _ _ => rfl) (PySem.W.Sortable.others fun _ => ⟨fun z => (nomatch z), fun _ z => (nomatch z)⟩) (Nat.le_trans (depth_map (n := 0) (fun _ => by simp [PyData.depth]) _) (by decide))
/-! pairs -/
def pairLe (p q : Int × Int) : Bool := decide (p.1 < q.1 ∨ (p.1 = q.1 ∧ p.2 ≤ q.2))
def srtP (l : List (Int × Int)) : List (Int × Int) := l.mergeSort pairLe
theorem srtD_pairs (l : List (Int × Int)) : srtD (l.map pairD) = (srtP l).map pairD := by
  rw [srtD_map]
  have := PySem.W.dataLe_ii (β := Int × Int) (fun b => b.1) (fun b => b.2)
  unfold srtP
  rw [show PySem.W.dataLe false pairD = pairLe from this]
theorem cd_srtP {l : List (Int × Int)} (h1 : s1 = .im (.list (l.map pairD)) ∨ s1 = .al (l.map pairD) ∨ s1 = .ow (l.map pairD)) : CD S (.builtin "sorted") [s1] (.ow ((srtP l).map pairD)) := by
  rw [← srtD_pairs]
  exact cd_srtD h1 (noDict_map (fun _ => rfl) _) (PySem.W.AllAlike.of fun a b => by
      show PySem.W.alikeAll (([a.1, a.2] : List Int).map .int) (([b.1, b.2] : List Int).map .int) = true
      exact PySem.W.alike_ints _ _) (PySem.W.Sortable.tuples fun _ => ⟨_, _, rfl⟩) (Nat.le_trans (depth_map (n := 1) (fun b => by simp [pairD, PyData.depth, PyData.depthAll]) _) (by decide))
end
end Kd

set_option Elab.async false
set_option linter.all false
set_option maxRecDepth 100000
/-! KeN: calls without arguments. -/
namespace Kd
open PySem L2 PySem.Spec PyProof.Rows
open Evl (Ex ex_l ex_t ex_rd fresh_back)
section
variable {S : Sh} {fl : Bool} {ρ : List Sl} {pos p : Pos} {X : Str → Prop} {Q : Sl → List Sl → Prop}
theorem ce_call0 {x : Str} {k : Nat} {G : List PyData → Oc → Prop} (hF : Fn S.toMd k x G) (h : CallG G [] (fun d => Q (.im d) ρ) X) (hk : k ≤ S.k := by walk_at "kd lvl") (hg : S.sc.names.lookup x = some .globalImplicit := by rfl)
    (hdb : (x == ("__debug__" : Str)) = false := by decide) : CE S fl ρ (.Call (.Name x p) [] [] pos) X Q := by
  obtain ⟨f, fd, ps, F, hm, hkp, hb⟩ := hF
  intro C τ vs σ H kk l nv QQ qq xx
  refine ⟨tCall (spG S.K S.mg G) [] S.E tNil, fun X hX => ?_, ?_⟩
  · refine pe_call0 (CX := L2N.CX S.P S.w) (k := k) (f := f) (fd := fd) (ps := ps) (ds := []) ?_ (hX.room.mono hk) (by show X.env.scope.names.lookup x = _; rw [hX.sc]; exact hg) (by rw [hX.mg]; exact hm) (by rw [hX.K]; exact hkp) (by rw [hX.K]; exact hb) .nil (pass_S hX) hdb
    rw [hX.prog, hX.w, hX.K, hX.mg, hX.base]
    exact F
  · obtain ⟨B, G', fp, k2⟩ := kk
    obtain ⟨oc, hG, h3⟩ := h
    cases oc with
    | ret d =>
      refine ⟨B, [], .ret d, hG, k2.bh, .nil, fun v H' B' b h e n hv => qq _ _ v H' h3 ?_⟩
      obtain ⟨G', k3⟩ := k2.back b h e n
      exact k3.put hv
    | exc c =>
      exact ⟨B, [], .exc c, hG, k2.bh, .nil, fun H' cv e m => xx c cv ρ H' h3 m ⟨B, G', fp, k2.grow e⟩⟩
end
end Kd

set_option Elab.async false
set_option linter.all false
set_option maxRecDepth 100000
/-! KeO: a for over a list that is made there. -/
namespace Kd
open PySem L2 PySem.Spec PyProof.Rows
open Evl (Ex ex_l ex_t ex_rd fresh_back)
section
variable {S : Sh} {ρ : List Sl} {tg e it : Expr} {pos : Pos} {P : Pst} {rest body : List Stmt} {α : Type}
theorem ir_list {ds : List PyData} (ha : ER S ρ e (fun d => d = .list ds)) : IR S ρ tg e (· = ds.length) (fun _ i => ds.getD i .none) := fun C τ vs σ H k l nv R q =>
  ⟨iList S.K (wE S e), fun X hX => by rw [← hX.K]; exact pi_list (wE_pe hX), ha C τ vs σ H k l nv _ fun v H1 d hd0 k1 => by
    subst hd0
    obtain ⟨B, G, fp, k2, hd⟩ := k1.head
    cases hd with
    | @lst a xs _ hs hx =>
      refine ⟨a, rfl, ⟨xs, ex_l k2.bh hs⟩, q _ (Itl S.K a) H1 [_] [_] rfl rfl (fun s hs => by rw [List.mem_singleton] at hs; subst hs; rfl) k1 fun i l os H2 k2 => ?_⟩
      obtain ⟨B, G, fp, k3⟩ := k2
      obtain ⟨f, g, _, ⟨_, u, e1, hd⟩, _⟩ := k3.tail
      cases e1
      cases hd with
      | @lst _ xs _ hs hx =>
        have hs2 := ex_l k3.bh hs
        refine ⟨fun hi => ?_, fun hi => ⟨xs, hs2, by rw [hx.len]; exact hi⟩⟩
        have hi' : i < xs.length := by rw [hx.len]; exact hi
        refine ⟨⟨xs, xs[i], hs2, List.getElem?_eq_getElem hi'⟩, fun x H3 y => ?_⟩
        obtain ⟨e1, y⟩ := y
        subst e1
        obtain ⟨d, h1, h2⟩ := hx.getV (y xs hs2)
        dsimp only
        rw [getD_some h1]
        exact k3.put h2⟩
theorem rc_forL {xs : List α} {inj : α → PyData} {β : Type} (I : List α → β → Prop) (st : List α → β → List Sl) (hw : CE S true ρ it (fun _ => False) fun r ρ' => ρ' = ρ ∧ ImK r fun d => d = .list (xs.map inj)) (b0 : β) (i0 : I [] b0) (h0 : Fg ρ (st [] b0))
    (hs : ∀ pre x post b, xs = pre ++ x :: post → I pre b → ∃ ρ2 ix, GD S (st pre b) tg (inj x) ρ2 ix ∧ RB S ρ2 body { P with nx := fun ρ' => ∃ b', I (pre ++ [x]) b' ∧ Fg ρ' (st (pre ++ [x]) b'), ct := fun ρ' => ∃ b', I (pre ++ [x]) b' ∧ Fg ρ' (st (pre ++ [x]) b'), bk := fun ρ' => RB S ρ' rest P }) (hd : ∀ b, I xs b → RB S (st xs b) rest P)
    (hfs : ∀ (X : Cx) x, foldedSetIterable it X.env x = pure x := by intro _ _; rfl) : RB S ρ (.For tg it body [] pos :: rest) P := by
  refine rb_cons (rs_forR (ir_list (er_ce hw)) (fun n i ρ1 => ∃ b, I (xs.take i) b ∧ Fg ρ1 (st (xs.take i) b)) (fun n hn => ⟨b0, i0, h0⟩) (fun n i ρ1 hn hi hI => ?_) (fun n ρ1 hn hI => ?_) hfs)
  · subst hn
    have hi' : i < xs.length := by simpa using hi
    obtain ⟨b, i1, hI⟩ := hI
    obtain ⟨ρ2, ix, hg, hb⟩ := hs (xs.take i) xs[i] (xs.drop (i + 1)) b (by rw [List.getElem_cons_drop hi', List.take_append_drop]) i1
    refine ⟨ρ2, ix, fun C τ vs σ H v k l Q q => ?_, ?_⟩
    · have e : (xs.map inj).getD i .none = inj xs[i] := by
        rw [List.getD_eq_getElem?_getD, List.getElem?_map, List.getElem?_eq_getElem hi']
        rfl
      rw [e] at k
      exact hg C τ vs σ H v (k.fg (.keep rfl (hI.under τ))) l Q q
    · rw [List.take_succ, List.getElem?_eq_getElem hi']
      exact hb
  · subst hn
    obtain ⟨b, i1, hI⟩ := hI
    rw [List.length_map, List.take_length] at i1 hI
    exact rb_fg hI (hd b i1)
end
end Kd

set_option Elab.async false
set_option linter.all false
set_option maxRecDepth 100000
set_option maxHeartbeats 4000000
/-! KeP: sorted(set(xs)), xs a list of ints. -/
namespace Kd
open PySem L2 PySem.Spec PyProof.Rows
open Evl (Ex ex_l ex_t ex_rd fresh_back)
abbrev emptyS (w : World) : Obj := { cls := .type "set", dict := none, data := .set #[] 0 (.fresh 0 0 (!w.params.followText "set-order")) }
section
variable {P : Program} {w : World} {A : Around} {E : Value → Shared → Prop} {s : Shared}
/-- set(xs), what is behind it -/
theorem set_of_list {l : Addr} {its : Array Value} (ns : List Int) {Q : Value → Shared → Prop} (a0 : A.handled = none) (hl : s.heap.IsList l its) (hi : IntsAre its.toList ns) (few : ns.length + 1 < scanBound)
    (fin : ∀ (h' : Heap) (tk c : Nat), SetR w h' s.heap.objs.size (fun j => decide (j ∈ ns)) c → c ≤ ns.length → (∀ b o, s.heap.get? b = some o → h'.get? b = some o) → Q (.ref s.heap.objs.size) { s with heap := h', toks := tk }) :
    wpAny (model P w) A (call (.type "set") [.ref l]) Q E s := by
  have len : its.size = ns.length := by have q := IntsAre.length hi; rw [Array.length_toList] at q; exact q
  obtain ⟨c0, t0, y1⟩ := F.called_set.mro; have y2 := F.called_set.made; have y3 := F.called_set.sub
  refine wpAny_call (codeAny_of_tree ?_); show wpAny _ _ (callAny (.type "set") _) _ _ _
  refine wpAny_pure ⟨Code.quiet_builtin _ (by decide +kernel), codeAny_builtin F.entry_type_call ?_⟩; rw [Around.under_plain (weight_type_call_type "set" [.ref l] []) rfl]
  have y4 := F.called_set.notType; have y5 := F.called_set.canCreate; have y6 := F.typeCall_set_1 (.ref l)
  (repeat any_goals first | assumption | wp_step)
  refine codeAny_mono (code_set_led1 (.ref l) (E := E) (Q₁ := fun ob u => ob = .ref s.heap.objs.size ∧ u = { s with heap := s.heap.push (emptyS w) }) ⟨rfl, rfl⟩) fun r u hr => ?_
  match r, hr with
  | .error e, hr => exact hr
  | .ok (.ret ob), hr =>
    obtain ⟨rfl, rfl⟩ := hr
    have g0 : (s.heap.push (emptyS w)).get? s.heap.objs.size = some (emptyS w) := Heap.get?_push_size _ rfl
    have ty0 : Shared.TypeIs { s with heap := s.heap.push (emptyS w) } (.ref s.heap.objs.size) "set" := ⟨_, g0, rfl⟩
    have y7 := F.called_set.init.lookup; have y8 := F.called_set.init.bind (.ref s.heap.objs.size)
    (repeat any_goals first | assumption | wp_step)
    refine codeAny_mono (codeAny_call_builtin (R := wants (fun r u => r = .none ∧ ∃ h' tk c, u = { s with heap := h', toks := tk } ∧ SetR w h' s.heap.objs.size (fun j => decide (j ∈ ns)) c ∧ c ≤ ns.length ∧ (∀ b o, s.heap.get? b = some o → h'.get? b = some o)) E) F.called_set.init.plain F.entry_set_init (check_set_init_1 ty0 ?_)) fun r2 u2 hr2 => ?_
    · obtain ⟨⟨k1, k2, k3, k4⟩, ho, hk, n0, hd⟩ := hl
      simp only at hk hd
      subst hk; subst hd
      have ho1 : (s.heap.push (emptyS w)).get? l = some { cls := .type "list", dict := k2, data := .seq its n0, slots := k4 } := Heap.get?_push_of_some _ ho
      have z1 := F.sub_list_set; have z2 := F.sub_list_frozenset
      have z3 : (Value.type "list" == Value.type "dict") = false := by decide
      have il : (s.heap.push (emptyS w)).IsList l its := ⟨_, ho1, rfl, n0, rfl⟩
      unfold Builtin.«set.__init__» noKeywords Builtin.Frozenset.updateFrom; generalize hPI : pyIter = PI
      wp_walk
      subst hPI
      refine wpAny_pyIter_list il (wpAny_bind (wpAny_runValue ?_))
      have lt : l < s.heap.objs.size := Heap.lt_size ho
      have h3 : A.in1.in1.in1.handled = none := by simp [a0]
      have ne1 : l ≠ (s.heap.push (emptyS w)).objs.size := by rw [Heap.size_push]; exact Nat.ne_of_lt (Nat.lt_succ_of_lt lt)
      have nf : s.heap.objs.size ∉ [(s.heap.push (emptyS w)).objs.size, l] := by
        rw [Heap.size_push]; simp only [List.mem_cons, List.not_mem_nil, or_false, not_or]; exact ⟨Nat.ne_of_lt (Nat.lt_succ_self _), Nat.ne_of_gt lt⟩
      have val : ∀ (i : Nat) (v : Value), its[i]? = some v → ∃ k t, ns[i]? = some k ∧ v = .int k t := fun i v hv => by
        have hin : i < ns.length := by rw [← len]; exact (Array.getElem?_eq_some_iff.mp hv).1
        obtain ⟨t, e⟩ := IntsAre.int_at hi i v (by rw [Array.getElem?_toList]; exact hv)
        exact ⟨ns[i], t, List.getElem?_eq_getElem hin, by rw [e, List.getD_eq_getElem?_getD, List.getElem?_eq_getElem hin]; rfl⟩
      refine set_update_ints ((Walks.list h3 _ l ne1 its).toS) s.heap.objs.size nf ns len few val (its.size - 0) 0 _ (by omega) (Nat.zero_le _) ⟨⟨_, Heap.get?_push_size _ rfl, rfl, rfl⟩, (il.push _)⟩ ⟨0, Nat.le_refl 0, setR_new_at (Heap.get?_push_of_some _ g0)⟩ fun u3 c3 mv hc3 hS3 => ?_
      obtain ⟨h', g2, d2, tk2, os2⟩ := u3
      obtain ⟨rfl, rfl, rfl⟩ : g2 = s.gens ∧ d2 = s.drawn ∧ os2 = s.os := ⟨mv.gens, mv.drawn, mv.os⟩
      show wpAny _ _ _ _ _ _
      refine wpAny_pure ?_
      show wpAny _ _ (ret Value.none) _ _ _
      rw [len] at hc3
      refine wpAny_pure ⟨rfl, h', tk2, c3, rfl, hS3, hc3, fun b o e => ?_⟩
      have bl : b < s.heap.objs.size := Heap.lt_size e
      refine mv.heap b o ?_ (Heap.get?_push_of_some _ (Heap.get?_push_of_some _ e))
      simp only [List.mem_cons, List.not_mem_nil, or_false, not_or]
      rw [Heap.size_push]
      exact ⟨Nat.ne_of_lt bl, Nat.ne_of_lt (Nat.lt_succ_of_lt bl)⟩
    · match r2, hr2 with
      | .error e, hr2 => exact hr2
      | .ok (.ret r), hr2 =>
        obtain ⟨rfl, h', tk, c', rfl, q1, q2, q3⟩ := hr2
        (repeat any_goals first | assumption | wp_step)
        exact fin _ _ _ q1 q2 q3
  | .ok (.next), hr => exact hr.elim
  | .ok (.brk), hr => exact hr.elim
  | .ok (.cont), hr => exact hr.elim
end
/-- set(xs) as a rule -/
def rSetLI (K : PySem.W.Frag) (w : World) : List V → Hp → VK → Prop := fun xs H Q => ∃ (a : Addr) (ns : List Int), xs = [.ref a] ∧ SqL K H a (ns.map V.int) ∧ ns.length < 60 ∧ ∀ p c, H p = none → c ≤ ns.length → Q (.ref p) (upd H p (SetO w p (fun j => decide (j ∈ ns)) c))
theorem call_setLI {X : Cx} (hc : X.calm = true) : CallR X (.type "set") (rSetLI X.K X.w) := by
  intro pins s σ H xs us Q I r h
  obtain ⟨a, ns, rfl, hs, few, q⟩ := h
  obtain ⟨its, rv, hl, _⟩ := I.list hs
  rw [Vals.ref1 r]
  refine set_of_list ns (I.ok.hd hc) hl.isList (by simpa using rv.ints) (by unfold scanBound; omega) fun h' tk c hS hcl keep => ?_
  exact ⟨.ref _, _, I.laid (t' := tk) keep (Nat.le_refl _) (setO_new hS), rfl, q _ c (I.hok.fresh (Nat.le_refl _)) hcl⟩
section
variable {S : Sh} {fl : Bool} {ρ : List Sl} {e : Expr} {pos p pos2 p2 : Pos} {X : Str → Prop} {Q : Sl → List Sl → Prop}
/-- sorted(set(e)) -/
theorem ce_srtSet {x y : Str} (hx : x = "sorted") (hy : y = "set") (hm : S.mg "sorted" = none) (hm2 : S.mg "set" = none)
    (h : CE S fl ρ e X fun r ρ1 => ∃ ns : List Int, (r = .im (.list (ns.map .int)) ∨ r = .al (ns.map .int) ∨ r = .ow (ns.map .int)) ∧ ns.length < 60 ∧ ∀ ms : List Int, ms.Pairwise (· < ·) → (∀ k, k ∈ ms ↔ k ∈ ns) → ms.length ≤ ns.length → Q (.ow (ms.map .int)) ρ1)
    (hg : S.sc.names.lookup ("sorted" : Str) = some .globalImplicit := by rfl) (hg2 : S.sc.names.lookup ("set" : Str) = some .globalImplicit := by rfl)
    (he : ∀ X : Cx, starEach [e] X.env = (false, eval e X.env) :: starEach [] X.env := by intro _; rfl)
    (he2 : ∀ X : Cx, starEach [.Call (.Name y p2) [e] [] pos2] X.env = (false, eval (.Call (.Name y p2) [e] [] pos2) X.env) :: starEach [] X.env := by intro _; rfl) :
    CE S fl ρ (.Call (.Name x p) [.Call (.Name y p2) [e] [] pos2] [] pos) X Q := fun C τ vs σ H k l nv QQ qq xx => by
  subst hx hy
  refine ⟨tCB (rSortedSet S.w) (tCons (tCB (rSetLI S.K S.w) (tCons (wE S e) tNil)) tNil), fun Y hY => ?_, ?_⟩
  · rw [← hY.w, ← hY.K]
    exact pe_callB (cr_sortedSet hY.calm) (by show Y.env.scope.names.lookup _ = _; rw [hY.sc]; exact hg) (by rw [hY.mg]; exact hm) (by decide +kernel) (pa_cons (pe_callTy (call_setLI hY.calm) (by show Y.env.scope.names.lookup _ = _; rw [hY.sc]; exact hg2) (by rw [hY.mg]; exact hm2) (by decide +kernel) (pa_cons (wE_pe hY) pa_nil (he Y)) (by decide) (by decide) (he Y) rfl) pa_nil (he2 Y)) (by decide) (by decide) (he2 Y) rfl
  · refine h C τ vs σ H k l nv _ (fun r ρ1 v H1 z k1 => ?_) xx
    obtain ⟨ns, hr, few, fin⟩ := z
    obtain ⟨B, G, fp, a, ws, k2, rfl, hs, hd⟩ := items_of k1 hr
    have ew := hd.ints
    subst ew
    refine ⟨a, ns, rfl, hs, few, fun b c hb hc => ?_⟩
    refine ⟨b, _, c, rfl, upd_same, by omega, fun ms d hms hmem hlen hd0 => ?_⟩
    refine qq _ _ _ _ (fin ms hms (fun k => by rw [hmem]; simp) (by omega)) ?_
    have k3 := k2.grow (Ex.new (o := SetO S.w b (fun j => decide (j ∈ ns)) c) hb)
    exact k3.putOwn hd0 (dta_ints id ms)
end
end Kd

set_option Elab.async false
set_option linter.all false
set_option maxRecDepth 100000
/-! KeQ: x = [drawn ..]. -/
namespace Kd
open PySem L2 PySem.Spec PyProof.Rows
open Evl (Ex ex_l ex_t ex_rd fresh_back)
section
variable {S : Sh} {ρ : List Sl} {tg e elt it : Expr} {pos p2 p : Pos} {P : Pst} {rest : List Stmt}
theorem evr_lc (own : List (Str × Nat)) {sc : Scope} {Pn : Nat → Prop} {d : Nat → Nat → PyData} {P : PyData → Prop} (hw : IR S ρ tg it Pn d) (I : Nat → Nat → List PyData → Prop) (h0 : ∀ n, Pn n → I n 0 []) (hz : ∀ n, Pn n → n ≤ 100000) (hno : ∀ w ∈ own.map (·.2), ρ[w]? = some .no)
    (hb : ∀ n i acc, Pn n → i < n → acc.length = i → I n i acc → ∃ ρ2 ix, (∀ j ∈ ix, j ∈ own.map (·.2)) ∧ wipeS ρ2 (own.map (·.2)) = wipeS ρ (own.map (·.2)) ∧ GD (S.blk sc) (wipeS ρ (own.map (·.2))) tg (d n i) ρ2 ix ∧ ER (S.blk sc) ρ2 elt (fun y => I n (i + 1) (acc ++ [y])))
    (hd : ∀ n acc, Pn n → acc.length = n → I n n acc → P (.list acc)) (C : Cz) (τ : List Sl) (vs σ : List (Option V)) (H : Hp) (k : Ok S.K C (τ ++ ρ) (vs ++ σ) H) (l : τ.length = vs.length) (nv : ∀ s ∈ τ, noV s = true)
    (Q : VK) (q : ∀ v H' d, P d → Ok S.K C (.im d :: (τ ++ ρ)) (some v :: (vs ++ σ)) H' → Q v H') : tLc (wI S tg it) (wG (S.blk sc) tg) tYes (wE (S.blk sc) elt) (own.map (·.2)) σ H Q :=
    hw C τ vs σ H k l nv _ fun n J H1 zs oz hn lz nz k1 turn D hD => by
    have kn : wipeS ρ (own.map (·.2)) = ρ := by
      generalize own.map (·.2) = ws at hno
      induction ws with
      | nil => rfl
      | cons w ws ih =>
        show (wipeS ρ ws).set w .no = ρ
        rw [ih fun w' h' => hno w' (List.mem_cons_of_mem _ h')]
        apply List.ext_getElem?
        intro j
        rw [List.getElem?_set]
        split
        · rename_i e
          subst e
          rw [hno w List.mem_cons_self]
          simp
          have := hno w List.mem_cons_self
          exact (List.getElem?_eq_some_iff.mp this).1
        · rfl
    refine ⟨fun i m H' => m = n - i ∧ i ≤ n ∧ ∃ acc, acc.length = i ∧ I n i acc ∧ Ok S.K C (zs ++ (.yw acc :: (τ ++ ρ))) (oz ++ (some (.ref D) :: (vs ++ σ))) H', ⟨n, by omega, Nat.zero_le _, [], rfl, h0 n hn, ?_⟩, ?_⟩
    · obtain ⟨B, G, fp, k2⟩ := k1
      exact (k2.putYw hD .nil).rotIn lz
    · rintro i m H' ⟨rfl, hi, acc, la, hI, k2⟩
      obtain ⟨t1, t2⟩ := turn i _ _ H' k2
      have drop : ∀ {l : List Sl} {os : List (Option V)} {H5 : Hp}, Ok S.K C (zs ++ l) (oz ++ os) H5 → Ok S.K C l os H5 := by
        intro l os H5 k6
        clear turn k1 k2 t1 t2 nz
        induction zs generalizing oz with
        | nil =>
          have e : oz = [] := List.eq_nil_of_length_eq_zero lz.symm
          subst e
          exact k6
        | cons z zs ih =>
          match oz, lz with
          | o :: oz, lz => exact ih oz (Nat.succ.inj lz) k6.tail
      by_cases hlt : i < n
      · obtain ⟨g1, g2⟩ := t1 hlt
        obtain ⟨ρ2, ix, hix, hwp, hg, he⟩ := hb n i acc hn hlt la hI
        refine .inr ⟨g1, fun H5 => ∃ acc, acc.length = i + 1 ∧ I n (i + 1) acc ∧ Ok S.K C (zs ++ (.yw acc :: (τ ++ ρ))) (oz ++ (some (.ref D) :: (vs ++ σ))) H5, fun H5 k5 => ⟨n - (i + 1), by omega, rfl, hlt, k5⟩, fun x H3 y => ?_⟩
        have k4 := g2 x H3 y
        have k4' : Ok S.K C ((.im (d n i) :: (zs ++ (.yw acc :: τ))) ++ ρ) ((some x :: (oz ++ (some (.ref D) :: vs))) ++ σ) H3 := by
          simpa using k4
        have k4w : Ok (S.blk sc).K C (.im (d n i) :: ((zs ++ (.yw acc :: τ)) ++ wipeS ρ (own.map (·.2)))) (some x :: ((oz ++ (some (.ref D) :: vs)) ++ L2.wipe σ (own.map (·.2)))) H3 := by
          have k4x := k4'.wipe (by simp [l, lz]) (own.map (·.2))
          exact k4x
        refine hg C (zs ++ (.yw acc :: τ)) (oz ++ (some (.ref D) :: vs)) (L2.wipe σ (own.map (·.2))) H3 x k4w (by simp [l, lz]) _ fun σ2 H4 w2 k5 => ?_
        have w3 : L2.wipe σ2 (own.map (·.2)) = L2.wipe σ (own.map (·.2)) := by
          rw [w2 _ hix]
          generalize own.map (·.2) = ws
          have tw : ∀ (ws us : List Nat), (∀ u ∈ us, u ∈ ws) → L2.wipe (L2.wipe σ ws) us = L2.wipe σ ws := by
            intro ws us
            induction us with
            | nil => intro _; rfl
            | cons u us ih =>
              intro h
              show (L2.wipe (L2.wipe σ ws) us).set u none = _
              rw [ih fun v hv => h v (List.mem_cons_of_mem _ hv)]
              have hu := h u List.mem_cons_self
              clear h ih
              induction ws with
              | nil => cases hu
              | cons a as ih2 =>
                show ((L2.wipe σ as).set a none).set u none = (L2.wipe σ as).set a none
                by_cases hua : u = a
                · subst hua
                  rw [List.set_set]
                · rw [List.set_comm _ _ (fun z => hua z.symm), ih2 ((List.mem_cons.mp hu).resolve_left hua)]
          exact tw ws ws fun _ h => h
        refine ⟨w3, ?_⟩
        have back : ∀ {a : List Sl} {oa : List (Option V)} {H6 : Hp}, a.length = oa.length → Ok S.K C (a ++ (τ ++ ρ2)) (oa ++ (vs ++ σ2)) H6 → Ok S.K C (a ++ (τ ++ ρ)) (oa ++ (vs ++ σ)) H6 := by
          intro a oa H6 la k7
          rw [← List.append_assoc, ← List.append_assoc] at k7
          have k8 := k7.wipe (by simp [l, la]) (own.map (·.2))
          rw [hwp, kn, w3] at k8
          have k9 : Ok S.K C ((a ++ τ) ++ ρ) ((oa ++ vs) ++ σ) H6 := by
            refine k8.repl (by simp [wipe_length]) fun j => ?_
            by_cases hj : j < (oa ++ vs).length
            · left
              rw [List.getElem?_append_left hj, List.getElem?_append_left hj]
            · rw [List.getElem?_append_right (by omega), List.getElem?_append_right (by omega)]
              by_cases hm : j - (oa ++ vs).length ∈ own.map (·.2)
              · right
                have hl : (a ++ τ).length = (oa ++ vs).length := by simp [l, la]
                rw [List.getElem?_append_right (by omega), hl]
                exact hno _ hm
              · left
                exact (wipe_get hm).symm
          rw [List.append_assoc, List.append_assoc] at k9
          exact k9
        unfold tYes
        dsimp only
        rw [if_pos rfl]
        refine he C _ _ σ2 H4 k5 (by simp [l, lz]) (fun s hs => ?_) _ fun y H6 dy hy k7 => ?_
        · rcases List.mem_append.mp hs with z | z
          · exact nz s z
          · rcases List.mem_cons.mp z with z | z
            · rw [z]; rfl
            · exact nv s z
        · have k8 : Ok S.K C ((.im dy :: zs) ++ (.yw acc :: (τ ++ ρ2))) ((some y :: oz) ++ (some (.ref D) :: (vs ++ σ2))) H6 := by
            have k7b : Ok S.K C _ _ H6 := k7
            simpa using k7b
          have k9 := (k8.rotOut (by simp [lz])).swap
          obtain ⟨p, xs, e1, hp, lx, k10⟩ := k9.grew
          have eD : D = p := V.ref.inj e1
          subst eD
          have hz' := hz n hn
          refine ⟨xs, hp, Evl.sz_lt (by omega), acc ++ [dy], by simp [la], hy, ?_⟩
          have k11 := k10.rotIn lz
          have k12 : Ok S.K C ((zs ++ [.yw (acc ++ [dy])]) ++ (τ ++ ρ2)) ((oz ++ [some (.ref D)]) ++ (vs ++ σ2)) (upd H6 D (.lst (xs ++ [y]))) := by simpa using k11
          have := back (by simp [lz]) k12
          simpa using this
      · have e : i = n := by omega
        subst e
        exact .inl ⟨t2 (Nat.le_refl _), q _ _ _ (hd i acc hn la hI) (drop k2).old.freeze⟩
/-- x = [drawn for i in range(drawn)] -/
theorem rc_asgDraws {i : Nat} {x : Str} {spos p1 : Pos} (hN : Ix S.N i x) (own : List (Str × Nat)) {sc : Scope} (Pn : Nat → Prop) (R : PyData → Prop) (hm : S.mg "range" = none) (hn : CE S true ρ e (fun _ => False) fun r ρ' => ρ' = ρ ∧ ImK r fun d => ∃ n : Nat, d = .int n ∧ n ≤ 100000 ∧ Pn n)
    (hb : ∀ n i, Pn n → i < n → CB (S.blk sc) ρ own tg (.int (i : Nat)) fun ρ2 => CE (S.blk sc) true ρ2 elt (fun _ => False) fun r ρ' => ρ' = ρ2 ∧ ImK r R)
    (q : ∀ acc, Pn acc.length → (∀ d ∈ acc, R d) → RB S (ρ.set i (.im (.list acc))) rest P) (ok : BlkOk S.N S.sc sc own := by walk_at "kd blk") (hnd : S.N.Nodup := by walk_at "kd nd") (hno : noAt ρ own = true := by rfl) (hg : S.sc.names.lookup ("range" : Str) = some .globalImplicit := by rfl)
    (hx : S.sc.names.lookup x = some .local := by rfl) (hk : S.sc.kind = .function := by rfl) (hl : (p.line == pos.line) = true := by rfl) (ha : (sc.names.any fun (n, k) => n == x && (k == .local || k == .cell)) = false := by decide +kernel)
    (hse : ∀ X : Cx, starEach [e] X.env = (false, eval e X.env) :: starEach [] X.env := by intro _; rfl) (hfs : ∀ (X : Cx) x, foldedSetIterable (.Call (.Name "range" p1) [e] [] p2) X.env x = pure x := by intro _ _; rfl) :
    RB S ρ (.Assign [.Name x p] (.ListComp elt [⟨tg, .Call (.Name "range" p1) [e] [] p2, [], 0⟩] sc pos) spos :: rest) P :=
  rb_cons (rs_of (t := tAsg (tLc (wI S tg (.Call (.Name "range" p1) [e] [] p2)) (wG (S.blk sc) tg) tYes (wE (S.blk sc) elt) (own.map (·.2))) (gName i)) (fun X hX => ps_setLc hX.calm (by rw [hX.N]; exact hnd) (by rw [hX.N]; exact hN.get) (by rw [hX.sc]; exact hx) (sw_true (by rw [hX.sc]; exact hk) (by rw [hX.sc]; exact hx) hl ha) (wI_pi hX) (by rw [hX.N, hX.sc]; exact ok) (fun s H C cl fp => wG_pg (Sh.blk_has hX s H C cl fp)) (fun s H C cl fp => pts_nil) (fun s H C cl fp => wE_pe (Sh.blk_has hX s H C cl fp)) (hfs X))
    fun C τ vs σ H D k l nv m => by
    show tLc _ _ _ _ _ σ H (fun x H1 => gName i x σ H1 D.nx)
    refine evr_lc (P := fun d => ∃ acc, d = .list acc ∧ Pn acc.length ∧ ∀ d ∈ acc, R d) own (Pn := fun n => Pn n ∧ n ≤ 100000) (ir_range1 hm (er_ce hn) (fun d z => by
      obtain ⟨n, rfl, h1, h2⟩ := z
      exact ⟨n, rfl, by omega, h2, h1⟩) hg hse) (fun n i acc => ∀ d ∈ acc, R d) (fun n _ d z => nomatch z) (fun n z => z.2) (noAt_ok hno) (fun n i acc hn hi hl hI => ?_) (fun n acc hn hl hI => ⟨acc, rfl, hl ▸ hn.1, hI⟩) C τ vs σ H k l nv _ (fun v H' d hd k2 => ?_)
    · obtain ⟨ρ2, ix, h1, h2, h3, h4⟩ := hb n i hn.1 hi
      refine ⟨ρ2, ix, h2, h3, h1, er_imp (er_ce h4) fun d hd x hx => ?_⟩
      rcases List.mem_append.mp hx with z | z
      · exact hI x z
      · rw [List.mem_singleton] at z
        subst z
        exact hd
    · obtain ⟨acc, rfl, h1, h2⟩ := hd
      exact m.nx _ (σ.set i (some v)) H' (q acc h1 h2) (by
        have k3 := Ok.set (i := τ.length + i) k2
        rw [off_set, l, List.set_append_right _ _ (Nat.le_add_right _ _), Nat.add_sub_cancel_left] at k3
        exact k3))
end
end Kd

set_option Elab.async false
set_option linter.all false
set_option maxRecDepth 100000
/-! KeR: sorted(dict) with texts as keys, range(a, b, -1). -/
namespace Kd
open PySem L2 PySem.Spec PyProof.Rows
open Evl (Ex ex_l ex_t ex_rd fresh_back)
def leS (a b : Str) : Bool := !ltCps b.cps.toList a.cps.toList
def srtS (ks : List Str) : List Str := ks.mergeSort leS
theorem leS_iff {a b : Str} : leS a b = true ↔ ¬ b.cps.toList < a.cps.toList := by
  unfold leS
  rw [ltCps_eq]
  simp
theorem leS_antisymm {a b : Str} (h1 : leS a b = true) (h2 : leS b a = true) : a = b := by
  rw [leS_iff] at h1 h2
  have e : a.cps.toList = b.cps.toList := List.le_antisymm (fun z => h1 z) (fun z => h2 z)
  obtain ⟨a⟩ := a
  obtain ⟨b⟩ := b
  congr 1
  exact Array.ext' e
theorem leS_trans {a b c : Str} (h1 : leS a b = true) (h2 : leS b c = true) : leS a c = true := by
  rw [leS_iff] at h1 h2 ⊢
  exact fun z => (List.le_trans (fun z => h1 z) (fun z => h2 z) : a.cps.toList ≤ c.cps.toList) z
theorem leS_total (a b : Str) : (leS a b || leS b a) = true := by
  rw [Bool.or_eq_true, leS_iff, leS_iff]
  by_cases h : b.cps.toList < a.cps.toList
  · exact .inr (List.lt_asymm h)
  · exact .inl h
theorem risingS_pair : ∀ {p : Str} {l : List Str}, risingS p l = true → (p :: l).Pairwise (fun a b => leS a b = true)
  | p, [], _ => List.pairwise_singleton _ _
  | p, x :: r, h => by
    have h' : (!ltCps x.cps.toList p.cps.toList && risingS x r) = true := h
    rw [Bool.and_eq_true] at h'
    have ih := risingS_pair h'.2
    refine List.pairwise_cons.mpr ⟨fun y hy => ?_, ih⟩
    rcases List.mem_cons.mp hy with rfl | hy
    · exact h'.1
    · exact leS_trans h'.1 ((List.pairwise_cons.mp ih).1 y hy)
theorem sortedS_pair {l : List Str} (h : sortedS l = true) : l.Pairwise (fun a b => leS a b = true) := by
  cases l with
  | nil => exact List.Pairwise.nil
  | cons x r => exact risingS_pair h
theorem srtS_pair (ks : List Str) : (srtS ks).Pairwise (fun a b => leS a b = true) := List.pairwise_mergeSort (le := leS) (fun _ _ _ => leS_trans) leS_total ks
theorem srtS_perm (ks : List Str) : (srtS ks).Perm ks := List.mergeSort_perm _ _
theorem srtS_uniq {ys ks : List Str} (hp : ys.Perm ks) (hs : sortedS ys = true) : ys = srtS ks :=
  List.Perm.eq_of_pairwise (fun _ _ _ _ h1 h2 => leS_antisymm h1 h2) (sortedS_pair hs) (srtS_pair ks) (hp.trans (srtS_perm ks).symm)
theorem dtA_strs {K : PySem.W.Frag} {H : Hp} : ∀ (ns : List Str), DtA K H (ns.map V.str) (ns.map PyData.str)
  | [] => .nil
  | n :: ns => .cons (.str n) (dtA_strs ns)
section
variable {S : Sh} {s1 : Sl} {ρ : List Sl} {tg e e2 e3 : Expr}
/-- sorted(d) -/
theorem cd_srtDct {l : List (Key × PyData)} {ks : List Str} (hk : l.map (·.1) = ks.map Sum.inr) (h64 : ks.length < 64) : CD S (.builtin "sorted") [.im (dctD l)] (.ow ((srtS ks).map .str)) :=
  cd_of1 (fun X hX => call_sortedD hX.calm) fun C lo os v H k Q q => by
    obtain ⟨B, G, fp, k2, hd⟩ := k.head
    cases hd with
    | @dct a o kvs _ hs ha =>
      refine ⟨a, kvs, ks, rfl, .inr ⟨o, k2.bh _ _ hs⟩, (DtK.keys ha).trans hk, h64, fun ys p hp hy hn => q _ _ ?_⟩
      rw [srtS_uniq hp hy]
      exact k2.putOwn hn (dtA_strs _)
end
end Kd

set_option Elab.async false
set_option linter.all false
set_option maxRecDepth 100000
/-! KeS: x, y, z = a, b, c. -/
namespace Kd
open PySem L2 PySem.Spec PyProof.Rows
open Evl (Ex ex_l ex_t ex_rd fresh_back)
section
variable {S : Sh} {ρ : List Sl} {a b c : Expr} {rest : List Stmt} {pos : Pos} {P : Pst}
theorem rs_parC3 {i j m : Nat} {x y z : Str} {px py pz pt pt2 : Pos} {kt k2} (hi : Ix S.N i x) (hj : Ix S.N j y) (hm : Ix S.N m z) (h : CA S true ρ [a, b, c] P.ex fun rs ρ1 => ∃ r1 r2 r3, rs = [r1, r2, r3] ∧ P.nx (((ρ1.set i r1).set j r2).set m r3)) (hnd : S.N.Nodup := by walk_at "kd nd") (hij : i ≠ j := by decide) (him : i ≠ m := by decide) (hjm : j ≠ m := by decide)
    (hx : S.sc.names.lookup x = some .local := by rfl) (hy : S.sc.names.lookup y = some .local := by rfl) (hz : S.sc.names.lookup z = some .local := by rfl)
    (hw : swappedStores [.Tuple [.Name x px, .Name y py, .Name z pz] kt pt] (.Tuple [a, b, c] k2 pt2) (env0 S.sc) = pure (some [x, y, z]) := by rfl)
    (hs : ∀ X : Cx, swapsWithSole [.Tuple [.Name x px, .Name y py, .Name z pz] kt pt] (.Tuple [a, b, c] k2 pt2) pos.line X.env = pure false := by intro _; rfl) :
    RS S ρ (.Assign [.Tuple [.Name x px, .Name y py, .Name z pz] kt pt] (.Tuple [a, b, c] k2 pt2) pos) P :=
  rs_of (t := tPar3 i j m (wA S [a, b, c])) (fun X hX => ps_par3 hX.calm (by rw [hX.N]; exact hnd) (by rw [hX.N]; exact hi.get) (by rw [hX.N]; exact hj.get) (by rw [hX.N]; exact hm.get) hij him hjm (by rw [hX.sc]; exact hx) (by rw [hX.sc]; exact hy) (by rw [hX.sc]; exact hz) (wA_pa hX) ((swap_env hX.sc).trans hw) (hs X)) fun C τ vs σ H D k l nv mt => h C τ vs σ H k l (fun _ => nv) _ (fun rs ρ1 ws H' zz lw k3 => by
    obtain ⟨r1, r2, r3, rfl, q⟩ := zz
    match ws, lw with
    | [v, w, u], _ =>
      refine ⟨v, w, u, rfl, mt.nx _ _ H' q ?_⟩
      have put : ∀ {ρa : List Sl} {σa : List (Option V)} {n : Nat} {r : Sl} {o : Option V}, Ok S.K C (r :: (τ ++ ρa)) (o :: (vs ++ σa)) H' → Ok S.K C (τ ++ ρa.set n r) (vs ++ σa.set n o) H' := fun {ρa σa n r o} k6 => by
        have k7 := Ok.set (i := τ.length + n) k6
        rw [off_set, l, List.set_append_right _ _ (Nat.le_add_right _ _), Nat.add_sub_cancel_left] at k7
        exact k7
      have put1 : ∀ {ρa : List Sl} {σa : List (Option V)} {n : Nat} {r r' : Sl} {o o' : Option V}, Ok S.K C (r' :: r :: (τ ++ ρa)) (o' :: o :: (vs ++ σa)) H' → Ok S.K C (r' :: (τ ++ ρa.set n r)) (o' :: (vs ++ σa.set n o)) H' := fun {ρa σa n r r' o o'} k6 => by
        have k7 := Ok.set (i := τ.length + n + 1) k6.swap
        rw [List.set_cons_succ, List.set_cons_succ, off_set, l, List.set_append_right _ _ (Nat.le_add_right _ _), Nat.add_sub_cancel_left] at k7
        exact k7
      have k3' : Ok S.K C (r3 :: r2 :: r1 :: (τ ++ ρ1)) (some u :: some w :: some v :: (vs ++ σ)) H' := k3
      have k4 : Ok S.K C (r3 :: r2 :: (τ ++ ρ1.set i r1)) (some u :: some w :: (vs ++ σ.set i (some v))) H' := by
        -- r1 to the front, then stored
        have s1 : Ok S.K C (r1 :: r3 :: r2 :: (τ ++ ρ1)) (some v :: some u :: some w :: (vs ++ σ)) H' := Ok.under (fun h => Sls.rotOut (zs := [r3, r2]) (oz := [some u, some w]) rfl h) k3'
        have k7 := Ok.set (i := τ.length + i + 2) s1
        rw [List.set_cons_succ, List.set_cons_succ, List.set_cons_succ, List.set_cons_succ, off_set, l, List.set_append_right _ _ (Nat.le_add_right _ _), Nat.add_sub_cancel_left] at k7
        exact k7
      exact put (put1 k4)) (.ofMeet mt)
theorem rc_par3 {i j m : Nat} {x y z : Str} {px py pz pt pt2 : Pos} {kt k2} (hi : Ix S.N i x) (hj : Ix S.N j y) (hm : Ix S.N m z) (h : CA S true ρ [a, b, c] P.ex fun rs ρ1 => ∃ r1 r2 r3, rs = [r1, r2, r3] ∧ RB S (((ρ1.set i r1).set j r2).set m r3) rest P) (hnd : S.N.Nodup := by walk_at "kd nd") (hij : i ≠ j := by decide) (him : i ≠ m := by decide) (hjm : j ≠ m := by decide)
    (hx : S.sc.names.lookup x = some .local := by rfl) (hy : S.sc.names.lookup y = some .local := by rfl) (hz : S.sc.names.lookup z = some .local := by rfl)
    (hw : swappedStores [.Tuple [.Name x px, .Name y py, .Name z pz] kt pt] (.Tuple [a, b, c] k2 pt2) (env0 S.sc) = pure (some [x, y, z]) := by rfl)
    (hs : ∀ X : Cx, swapsWithSole [.Tuple [.Name x px, .Name y py, .Name z pz] kt pt] (.Tuple [a, b, c] k2 pt2) pos.line X.env = pure false := by intro _; rfl) :
    RB S ρ (.Assign [.Tuple [.Name x px, .Name y py, .Name z pz] kt pt] (.Tuple [a, b, c] k2 pt2) pos :: rest) P := rb_cons (rs_parC3 hi hj hm h hnd hij him hjm hx hy hz hw hs)
theorem rpar3 {ρ1 : List Sl} {i j m : Nat} {r1 r2 r3 : Sl} (h : RB S (((ρ1.set i r1).set j r2).set m r3) rest P) : ∃ s1 s2 s3, [r1, r2, r3] = [s1, s2, s3] ∧ RB S (((ρ1.set i s1).set j s2).set m s3) rest P := ⟨r1, r2, r3, rfl, h⟩
end
end Kd

set_option Elab.async false
set_option linter.all false
set_option maxRecDepth 100000
/-! KeT: a for over the first items of a tuple, so many as are drawn. -/
namespace Kd
open PySem L2 PySem.Spec PyProof.Rows
open Evl (Ex ex_l ex_t ex_rd fresh_back)
section
variable {S : Sh} {ρ : List Sl} {tg e it : Expr} {pos : Pos} {P : Pst} {rest body : List Stmt} {α : Type}
theorem take_getD {ds : List PyData} {i n : Nat} (h : i < n) : (ds.take n).getD i .none = ds.getD i .none := by
  rw [List.getD_eq_getElem?_getD, List.getD_eq_getElem?_getD, List.getElem?_take, if_pos h]
theorem ir_tupT {ds : List PyData} {Pn : Nat → Prop} (ha : ER S ρ e (fun d => ∃ n, n ≤ ds.length ∧ Pn n ∧ d = .tuple (ds.take n))) : IR S ρ tg e (fun n => n ≤ ds.length ∧ Pn n) (fun _ i => ds.getD i .none) := fun C τ vs σ H k l nv R q =>
  ⟨iTup S.K (wE S e), fun X hX => by rw [← hX.K]; exact pi_tup (wE_pe hX), ha C τ vs σ H k l nv _ fun v H1 d hd0 k1 => by
    obtain ⟨n, hn, hP, rfl⟩ := hd0
    obtain ⟨B, G, fp, k2, hd⟩ := k1.head
    cases hd with
    | @tup a xs _ hs hx =>
      have hlen : xs.length = n := by rw [hx.len, List.length_take]; omega
      refine ⟨a, rfl, ⟨xs, ex_t k2.bh hs⟩, q n (Itt S.K a) H1 [_] [_] ⟨hn, hP⟩ rfl (fun s hs => by rw [List.mem_singleton] at hs; subst hs; rfl) k1 fun i l os H2 k2 => ?_⟩
      obtain ⟨B, G, fp, k3⟩ := k2
      obtain ⟨f, g, _, ⟨_, u, e1, hd⟩, _⟩ := k3.tail
      cases e1
      cases hd with
      | @tup _ xs _ hs hx =>
        have hs2 := ex_t k3.bh hs
        have hlen : xs.length = n := by rw [hx.len, List.length_take]; omega
        refine ⟨fun hi => ?_, fun hi => ⟨xs, hs2, by omega⟩⟩
        have hi' : i < xs.length := by omega
        refine ⟨⟨xs, xs[i], hs2, List.getElem?_eq_getElem hi'⟩, fun x H3 y => ?_⟩
        obtain ⟨e1, y⟩ := y
        subst e1
        obtain ⟨d, h1, h2⟩ := hx.getV (y xs hs2)
        dsimp only
        rw [← take_getD hi, getD_some h1]
        exact k3.put h2⟩
theorem rc_forTk {xs : List α} {inj : α → PyData} {β : Type} (Pn : Nat → Prop) (I : List α → β → Prop) (st : List α → β → List Sl) (hw : CE S true ρ it (fun _ => False) fun r ρ' => ρ' = ρ ∧ ImK r fun d => ∃ n, n ≤ xs.length ∧ Pn n ∧ d = .tuple ((xs.take n).map inj)) (b0 : β) (i0 : I [] b0) (h0 : Fg ρ (st [] b0))
    (hs : ∀ pre x post b, xs = pre ++ x :: post → I pre b → ∃ ρ2 ix, GD S (st pre b) tg (inj x) ρ2 ix ∧ RB S ρ2 body { P with nx := fun ρ' => ∃ b', I (pre ++ [x]) b' ∧ Fg ρ' (st (pre ++ [x]) b'), ct := fun ρ' => ∃ b', I (pre ++ [x]) b' ∧ Fg ρ' (st (pre ++ [x]) b'), bk := fun ρ' => RB S ρ' rest P }) (hd : ∀ n b, n ≤ xs.length → Pn n → I (xs.take n) b → RB S (st (xs.take n) b) rest P)
    (hfs : ∀ (X : Cx) x, foldedSetIterable it X.env x = pure x := by intro _ _; rfl) : RB S ρ (.For tg it body [] pos :: rest) P := by
  refine rb_cons (rs_forR (Pn := fun n => n ≤ (xs.map inj).length ∧ Pn n) (ir_tupT (er_ce (ce_imp hw fun r ρ' z => ⟨z.1, by
    rcases z.2 with ⟨d, e, n, h1, h2, h3⟩ | ⟨ds, e, n, h1, h2, h3⟩
    · exact .inl ⟨d, e, n, by rw [List.length_map]; exact h1, h2, by rw [h3, List.map_take]⟩
    · cases h3⟩))) (fun n i ρ1 => ∃ b, I (xs.take i) b ∧ Fg ρ1 (st (xs.take i) b)) (fun n hn => ⟨b0, i0, h0⟩) (fun n i ρ1 hn hi hI => ?_) (fun n ρ1 hn hI => ?_) hfs)
  · have hi' : i < xs.length := by have := hn.1; rw [List.length_map] at this; omega
    obtain ⟨b, i1, hI⟩ := hI
    obtain ⟨ρ2, ix, hg, hb⟩ := hs (xs.take i) xs[i] (xs.drop (i + 1)) b (by rw [List.getElem_cons_drop hi', List.take_append_drop]) i1
    refine ⟨ρ2, ix, fun C τ vs σ H v k l Q q => ?_, ?_⟩
    · have e : (xs.map inj).getD i .none = inj xs[i] := by
        rw [List.getD_eq_getElem?_getD, List.getElem?_map, List.getElem?_eq_getElem hi']
        rfl
      rw [e] at k
      exact hg C τ vs σ H v (k.fg (.keep rfl (hI.under τ))) l Q q
    · rw [List.take_succ, List.getElem?_eq_getElem hi']
      exact hb
  · obtain ⟨b, i1, hI⟩ := hI
    exact rb_fg hI (hd n b (by have := hn.1; rwa [List.length_map] at this) hn.2 i1)
end
section
variable {S : Sh} {ρ : List Sl} {e a b : Expr} {pos p2 : Pos} {fl : Bool} {Q : Sl → List Sl → Prop} {X : Str → Prop}
theorem ce_sliceF {lo hi : Option Expr} (h : CE S fl ρ a X fun s1 ρ1 => CO S (fl && noV s1) ρ1 lo X fun l ρ2 => CO S (fl && noV s1) ρ2 hi X fun u ρ3 => SK2 S s1 l u fun s3 => Q s3 ρ3) : CE S fl ρ (.Subscript a (.Slice lo hi none p2) pos) X Q := fun C τ vs σ H k l nv QQ qq xx =>
  ⟨tSl (wSl S) (wE S a) (wO S lo) (wO S hi), fun X hX => pe_slice (wSl_sl hX) (wE_pe hX) (wO_po hX) (wO_po hX), h C τ vs σ H k l nv _ (fun s1 ρ1 v1 H1 h1 k1 =>
    h1 C (s1 :: τ) (some v1 :: vs) σ H1 k1 (congrArg (· + 1) l) nv.cons _ (fun ll ρ2 H2 h2 k2 => h2 C (s1 :: τ) (some v1 :: vs) σ H2 k2 (congrArg (· + 1) l) nv.cons _ (fun u ρ3 H3 z k3 => by
      obtain ⟨s3, od, h3⟩ := z
      exact od C _ _ v1 H3 k3 QQ fun v H' k4 => qq s3 ρ3 v H' h3 k4) xx.cons) xx.cons) xx⟩
end
end Kd

set_option Elab.async false
set_option linter.all false
set_option maxRecDepth 100000
/-! KeU: == and != of dicts that are data and equal. -/
namespace Kd
open PySem L2 PySem.Spec PyProof.Rows
open Evl (Ex ex_l ex_t ex_rd fresh_back)
/-- two locked dicts, equal by data -/
def EqDc (K : PySem.W.Frag) (H : Hp) (x y : V) : Prop := ∃ a b oa ob ks ls, x = .ref a ∧ y = .ref b ∧ H a = some (.frz oa (.dK ks)) ∧ H b = some (.frz ob (.dK ls)) ∧ ks.length = ls.length ∧
  ∀ p ∈ ks, ∃ u d, valV ls p.1 = some u ∧ Dp K H p.2 d ∧ Dp K H u d ∧ SeqAt.shaped d = true ∧ PyData.eqv d d = true
theorem dc_hits {X : Cx} {pins : List (Addr × Obj)} {σ : L2.St} {H : Hp} {s : Shared} (I : Inv X pins σ H s) {A : Around} (hu : A.in1.units + 64 < cLine) {ls : List (Key × V)} {vb : List (Key × Value)} (rb : KV ls vb) {ks : List (Key × V)} {va : List (Key × Value)}
    (ra : KV ks va) : (∀ p ∈ ks, ∃ u d, valV ls p.1 = some u ∧ Dp X.K H p.2 d ∧ Dp X.K H u d ∧ SeqAt.shaped d = true ∧ PyData.eqv d d = true) → PySem.W.KeqHits A.in1 s vb va true := by
  unfold KV at ra
  induction ra with
  | nil => intro _; exact .nil
  | @cons p q ps qs h t k =>
    intro hp
    obtain ⟨h1, h2⟩ := h
    obtain ⟨u, d, e, f1, f2, hs, hd⟩ := hp p List.mem_cons_self
    have rr : RelO (some u) (valueAt vb p.1) := by rw [← e]; exact rb.val p.1
    obtain ⟨y, hy, ry⟩ := rr.some_of
    obtain ⟨key, v⟩ := q
    have h1' : p.1 = key := h1
    rw [h1'] at hy
    obtain ⟨as, r1⟩ := Dp.reads I d _ _ f1 h2
    obtain ⟨bs, r2⟩ := Dp.reads I d _ _ f2 ry
    have eq := PySem.W.keq_at (A := A) r1 r2 hs hs hu
    rw [hd] at eq
    show PySem.W.KeqHits A.in1 s vb ((key, v) :: qs) (true && true)
    exact .hit hy eq (k fun p' hm => hp p' (List.mem_cons_of_mem _ hm))
theorem op_eqDc {X : Cx} (hu : X.A.units + 64 < cLine) (hu1 : X.A.in1.units + 64 < cLine) : OpR X (compareOp .Eq) (fun x y H Q => EqDc X.K H x y ∧ Q (.bl true) H) := by
  intro pins s σ H x y v u Q I rx ry h
  obtain ⟨⟨a, b, oa, ob, ks, ls, rfl, rfl, ha, hb, hl, hp⟩, q⟩ := h
  cases (show v = Value.ref a from rx)
  cases (show u = Value.ref b from ry)
  obtain ⟨_, _, ya, va, ra, da⟩ := (show ObjOk X.prog X.w H s.heap a (.frz oa (.dK ks)) from I.hok a _ ha)
  obtain ⟨_, _, yb, vb, rb, db⟩ := (show ObjOk X.prog X.w H s.heap b (.frz ob (.dK ls)) from I.hok b _ hb)
  refine PySem.W.keq_eq (knd := mixKind X.prog X.w) (r := true) ya yb da db (by omega) (fun _ => dc_hits I hu1 rb ra hp) ?_
  have e : va.length = vb.length := by rw [← ra.length, ← rb.length]; exact hl
  rw [show (va.length == vb.length && true) = true from by rw [e]; simp]
  exact ⟨.bl true, H, I, rfl, q⟩
theorem op_neDc {X : Cx} (hu : X.A.units + 64 < cLine) (hu1 : X.A.in1.units + 64 < cLine) : OpR X (compareOp .NotEq) (fun x y H Q => EqDc X.K H x y ∧ Q (.bl false) H) := by
  intro pins s σ H x y v u Q I rx ry h
  obtain ⟨⟨a, b, oa, ob, ks, ls, rfl, rfl, ha, hb, hl, hp⟩, q⟩ := h
  cases (show v = Value.ref a from rx)
  cases (show u = Value.ref b from ry)
  obtain ⟨_, _, ya, va, ra, da⟩ := (show ObjOk X.prog X.w H s.heap a (.frz oa (.dK ks)) from I.hok a _ ha)
  obtain ⟨_, _, yb, vb, rb, db⟩ := (show ObjOk X.prog X.w H s.heap b (.frz ob (.dK ls)) from I.hok b _ hb)
  refine PySem.W.keq_ne (knd := mixKind X.prog X.w) (r := true) ya yb da db (by omega) (fun _ => dc_hits I hu1 rb ra hp) ?_
  have e : va.length = vb.length := by rw [← ra.length, ← rb.length]; exact hl
  rw [show (!(va.length == vb.length && true)) = false from by rw [e]; simp]
  exact ⟨.bl false, H, I, rfl, q⟩
theorem DtK.each {K : PySem.W.Frag} {H : Hp} : ∀ {l : List (Key × PyData)} {kvs : List (Key × V)}, DtK K H kvs (l.map fun q => (kD q.1, q.2)) → ∀ p ∈ kvs, ∃ d, (p.1, d) ∈ l ∧ Dt K H p.2 d
  | [], _, h => by
    generalize e : List.map (fun q : Key × PyData => (kD q.1, q.2)) [] = m at h
    cases h with
    | nil => exact fun _ z => nomatch z
    | cons _ _ => cases e
  | (k, d) :: l, kvs, h => by
    generalize e : List.map (fun q : Key × PyData => (kD q.1, q.2)) ((k, d) :: l) = m at h
    cases h with
    | nil => cases e
    | @cons k' v vs d' ds h1 h2 =>
      rw [List.map_cons] at e
      injection e with e1 e2
      injection e1 with e3 e4
      have := kD_inj e3
      subst this e2 e4
      intro p hp
      rcases List.mem_cons.mp hp with rfl | hp
      · exact ⟨d, List.mem_cons_self, h1⟩
      · obtain ⟨d', h3, h4⟩ := DtK.each h2 p hp
        exact ⟨d', List.mem_cons_of_mem _ h3, h4⟩
/-- equal as maps -/
def SameM (l1 l2 : List (Key × PyData)) : Prop := l1.length = l2.length ∧ ∀ q ∈ l1, valP l2 q.1 = some q.2 ∧ noDict q.2 = true ∧ SeqAt.shaped q.2 = true ∧ PyData.eqv q.2 q.2 = true
theorem dct_of {K : PySem.W.Frag} {B : Hp} {v : V} {l : List (Key × PyData)} (h : Dt K B v (dctD l)) : ∃ a o kvs, v = .ref a ∧ B a = some (.frz o (.dK kvs)) ∧ DtK K B kvs (l.map fun q => (kD q.1, q.2)) := by
  unfold dctD at h
  cases h with
  | dct h1 h2 => exact ⟨_, _, _, rfl, h1, h2⟩
theorem same_dc {K : PySem.W.Frag} {B H : Hp} {v w : V} {l1 l2 : List (Key × PyData)} (hs : SameM l1 l2) (e : Ex B H) (h1 : Dt K B v (dctD l1)) (h2 : Dt K B w (dctD l2)) : EqDc K H v w := by
  obtain ⟨a, oa, ks, rfl, ha, da⟩ := dct_of h1
  obtain ⟨b, ob, ls, rfl, hb, db⟩ := dct_of h2
  have k1 := congrArg List.length (DtK.keys da)
  have k2 := congrArg List.length (DtK.keys db)
  rw [List.length_map, List.length_map] at k1 k2
  refine ⟨a, b, oa, ob, ks, ls, rfl, rfl, e _ _ ha, e _ _ hb, by have := hs.1; omega, fun p hp => ?_⟩
  obtain ⟨d, hm, hd⟩ := DtK.each da p hp
  obtain ⟨s1, s2, s3, s4⟩ := hs.2 _ hm
  obtain ⟨u, hu, hud⟩ := (DtK.val (k := p.1) db).1 d s1
  exact ⟨u, d, hu, Dt.dp _ _ s2 (hd.up e), Dt.dp _ _ s2 (hud.up e), s3, s4⟩
section
variable {S : Sh}
theorem od_eqDct {l1 l2 : List (Key × PyData)} (h : SameM l1 l2) : OD S (compareOp .Eq) (.im (dctD l1)) (.im (dctD l2)) (.im (.bool true)) := fun C lo os v1 v2 H kk Q q => by
  obtain ⟨B, G, fp, k3, h1, h2⟩ := Ok.two kk
  refine ⟨fun x y H Q => EqDc S.K H x y ∧ Q (.bl true) H, fun X hX => ?_, same_dc h k3.bh h1 h2, q _ _ (kk.tail.tail.flat (.bl _))⟩
  rw [← hX.K]
  exact op_eqDc hX.room.units (by have := hX.room.un; show X.A.units + 1 + 64 < _; omega)
theorem od_neDct {l1 l2 : List (Key × PyData)} (h : SameM l1 l2) : OD S (compareOp .NotEq) (.im (dctD l1)) (.im (dctD l2)) (.im (.bool false)) := fun C lo os v1 v2 H kk Q q => by
  obtain ⟨B, G, fp, k3, h1, h2⟩ := Ok.two kk
  refine ⟨fun x y H Q => EqDc S.K H x y ∧ Q (.bl false) H, fun X hX => ?_, same_dc h k3.bh h1 h2, q _ _ (kk.tail.tail.flat (.bl _))⟩
  rw [← hX.K]
  exact op_neDc hX.room.units (by have := hX.room.un; show X.A.units + 1 + 64 < _; omega)
end
end Kd

set_option Elab.async false
set_option linter.all false
set_option maxRecDepth 100000
/-! KeV: things that change, in general; instances whose attributes are data. -/
namespace Kd
open PySem L2
open Evl (Ex ex_l ex_t ex_rd fresh_back)
section
variable {K : PySem.W.Frag} {C : Cz} {B B' G H H' : Hp} {ρ : List Sl} {σ : List (Option V)} {fp : List Addr} {s : Sl} {o : Option V} {i : Nat}
theorem SlOk.stayF {f F : List Addr} (h1 : SlOk K C B B H s o f) (nv : noV s = true) (np : ∀ p ∈ f, p ∉ F) (e : ∀ a x, H a = some x → a ∉ F → H' a = some x) (b : Ex B B') (hb : ∀ p ∈ f, B' p = none) : SlOk K C B' B' H' s o f := by
  cases s with
  | no => exact h1
  | im d => obtain ⟨z, v, e1, k⟩ := h1; exact ⟨z, v, e1, k.up b⟩
  | vw d => cases nv
  | al ds => cases nv
  | ow ds =>
    obtain ⟨q, xs, e1, rfl, hn, hq, z⟩ := h1
    exact ⟨q, xs, e1, rfl, hn, e _ _ hq (np q (by simp)), z.up b⟩
  | yw ds =>
    obtain ⟨q, xs, e1, rfl, hn, hq, z, _⟩ := h1
    exact ⟨q, xs, e1, rfl, hn, e _ _ hq (np q (by simp)), z.up b, hb q (by simp)⟩
  | rs R =>
    obtain ⟨v, e1, k⟩ := h1
    refine ⟨v, e1, R.keep k b fun q hq => ?_⟩
    cases z : H q with
    | none => exact absurd z (R.al k q hq)
    | some x => exact e _ _ z (np q hq)
  | vr A => cases nv
  | og Z =>
    obtain ⟨q, xs, e1, rfl, hn, hq, z⟩ := h1
    exact ⟨q, xs, e1, rfl, hn, e _ _ hq (np q (by simp)), Z.keep z b⟩
theorem Sls.stayF {F : List Addr} (h : Sls K C B B H ρ σ fp) (nv : ∀ s ∈ ρ, noV s = true) (np : ∀ p ∈ fp, p ∉ F) (e : ∀ a x, H a = some x → a ∉ F → H' a = some x) (b : Ex B B') (hb : ∀ p ∈ fp, B' p = none) : Sls K C B' B' H' ρ σ fp := by
  induction h with
  | nil => exact .nil
  | cons q1 q2 ih => exact .cons (q1.stayF (nv _ List.mem_cons_self) (fun p z => np p (List.mem_append_left _ z)) e b fun p z => hb p (List.mem_append_left _ z)) (ih (fun s z => nv s (List.mem_cons_of_mem _ z)) (fun p z => np p (List.mem_append_right _ z)) fun p z => hb p (List.mem_append_right _ z))
/-- the thing in slot i changes -/
theorem Sls.turnF (h : Sls K C B B H ρ σ fp) (nd : fp.Nodup) (ei : ρ[i]? = some s) (nv : ∀ s ∈ ρ, noV s = true) :
    ∃ o f, σ[i]? = some o ∧ SlOk K C B B H s o f ∧ f.Nodup ∧ (∀ p ∈ f, p ∈ fp) ∧ ∀ B' H' s2 f2, Ex B B' → (∀ a x, H a = some x → a ∉ f → H' a = some x) → (∀ p ∈ fp, B' p = none) → SlOk K C B' B' H' s2 o f2 → (∀ p ∈ f2, p ∈ f ∨ H p = none) → f2.Nodup →
      ∃ fp2, Sls K C B' B' H' (ρ.set i s2) σ fp2 ∧ fp2.Nodup ∧ ∀ p ∈ fp2, p ∈ fp ∨ p ∈ f2 := by
  induction h generalizing i with
  | nil => simp at ei
  | @cons s1 o1 f1 g1 ρ1 σ1 h1 h2 ih =>
    obtain ⟨n1, n2, n3⟩ := List.nodup_append.mp nd
    cases i with
    | zero =>
      simp at ei
      subst ei
      refine ⟨o1, f1, rfl, h1, n1, fun p z => List.mem_append_left _ z, fun B' H' s2 f2 b e hb k2 sub nd2 => ?_⟩
      refine ⟨f2 ++ g1, .cons k2 (h2.stayF (fun s z => nv s (List.mem_cons_of_mem _ z)) (fun p z y => n3 p y p z rfl) e b fun p z => hb p (List.mem_append_right _ z)), ?_, fun p z => ?_⟩
      · refine List.nodup_append.mpr ⟨nd2, n2, fun p hp q hq epq => ?_⟩
        subst epq
        rcases sub p hp with y | y
        · exact n3 p y p hq rfl
        · exact h2.al p hq y
      · rcases List.mem_append.mp z with z | z
        · exact .inr z
        · exact .inl (List.mem_append_right _ z)
    | succ i =>
      obtain ⟨o, f, eo, hs, nf, sf, fin⟩ := ih n2 (i := i) (by simpa using ei) fun s z => nv s (List.mem_cons_of_mem _ z)
      refine ⟨o, f, by simpa using eo, hs, nf, fun p z => List.mem_append_right _ (sf p z), fun B' H' s2 f2 b e hb k2 sub nd2 => ?_⟩
      obtain ⟨fp2, g1', g2, g3⟩ := fin B' H' s2 f2 b e (fun p z => hb p (List.mem_append_right _ z)) k2 sub nd2
      refine ⟨f1 ++ fp2, .cons (h1.stayF (nv _ List.mem_cons_self) (fun p z y => n3 p z p (sf p y) rfl) e b fun p z => hb p (List.mem_append_left _ z)) g1', ?_, fun p z => ?_⟩
      · refine List.nodup_append.mpr ⟨n1, g2, fun p hp q hq epq => ?_⟩
        subst epq
        rcases g3 p hq with y | y
        · exact n3 p hp p y rfl
        · rcases sub p y with w | w
          · exact n3 p hp p (sf p w) rfl
          · exact h1.al p hp w
      · rcases List.mem_append.mp z with z | z
        · exact .inl (List.mem_append_left _ z)
        · rcases g3 p z with y | y
          · exact .inl (List.mem_append_right _ y)
          · exact .inr y
theorem OkB.turnF {R : Res} (k : OkB K C B G fp ρ σ H) (nv : ∀ s ∈ ρ, noV s = true) (ei : ρ[i]? = some (.rs R)) :
    ∃ v f, σ[i]? = some (some v) ∧ R.ok B H v f ∧ f.Nodup ∧ (∀ p ∈ f, B p = none) ∧ ∀ B' H' R' f', Ex B B' → Ex B' H' → (∀ a x, H a = some x → a ∉ f → H' a = some x) → (∀ a x, B' a = some x → B a = some x ∨ H a = none) → R'.ok B' H' v f' →
      (∀ p ∈ f, p ∈ f') → (∀ p ∈ f', p ∈ f ∨ H p = none) → (∀ p ∈ f', B' p = none) → f'.Nodup → ∃ fp', OkB K C B' B' fp' (ρ.set i (.rs R')) σ H' := by
  have kb := k.blind nv
  obtain ⟨o, f, eo, ⟨v, ev, hR⟩, nf, sf, fin⟩ := kb.sls.turnF kb.nd ei nv
  subst ev
  refine ⟨v, f, eo, hR, nf, fun p z => (kb.own p (sf p z)).1, fun B' H' R' f' b h e n hR' sub1 sub2 hb nd' => ?_⟩
  have ownp : ∀ p ∈ fp, B' p = none := fun p hp => by
    cases z : B' p with
    | none => rfl
    | some x =>
      rcases n p x z with y | y
      · rw [(kb.own p hp).1] at y; cases y
      · exact absurd y (kb.sls.al p hp)
  obtain ⟨fp', q1, q2, q3⟩ := fin B' H' (.rs R') f' b e ownp ⟨v, rfl, hR'⟩ sub2 nd'
  refine ⟨fp', kb.b.trans b, Ex.refl _, h, fun a x z w => ?_, fun a x z => ?_, fun a z => ?_, q2, fun p hp => ?_, q1⟩
  · refine e a x (kb.e a x z w) fun y => ?_
    rcases (kb.own a (sf a y)).2 with u | u
    · rw [u] at z; cases z
    · exact w u
  · rcases n a x z with y | y
    · exact kb.n a x y
    · exact .inr (kb.dom a y)
  · cases z2 : H a with
    | none => exact kb.dom a z2
    | some x =>
      by_cases y : a ∈ f
      · exact absurd z (R'.al hR' a (sub1 a y))
      · rw [e a x z2 y] at z; cases z
  · rcases q3 p hp with y | y
    · exact ⟨ownp p y, (kb.own p y).2⟩
    · refine ⟨hb p y, ?_⟩
      rcases sub2 p y with w | w
      · exact (kb.own p (sf p w)).2
      · exact .inl (kb.dom p w)
end
/-! ### methods -/
section
variable {K : PySem.W.Frag} {C : Cz} {B B' G H H' : Hp} {ρ : List Sl} {σ : List (Option V)} {fp : List Addr} {s : Sl} {o : Option V} {i : Nat}
/-- .. nothing more is known of it -/
theorem OkB.lostF {R : Res} (k : OkB K C B G fp ρ σ H) (nv : ∀ s ∈ ρ, noV s = true) (ei : ρ[i]? = some (.rs R)) :
    ∃ v f, σ[i]? = some (some v) ∧ R.ok B H v f ∧ f.Nodup ∧ (∀ p ∈ f, B p = none) ∧ ∀ H', (∀ a x, H a = some x → a ∉ f → H' a = some x) → (∀ a, H' a = none → H a = none) → Ok K C (ρ.set i .no) σ H' := by
  have kb := k.blind nv
  obtain ⟨o, f, eo, ⟨v, ev, hR⟩, nf, sf, fin⟩ := kb.sls.turnF kb.nd ei nv
  subst ev
  refine ⟨v, f, eo, hR, nf, fun p z => (kb.own p (sf p z)).1, fun H' e dm => ?_⟩
  obtain ⟨fp', q1, q2, q3⟩ := fin B H' .no [] (Ex.refl _) e (fun p hp => (kb.own p hp).1) rfl (fun _ z => nomatch z) List.nodup_nil
  refine ⟨B, B, fp', kb.b, Ex.refl _, fun a x z => ?_, fun a x z w => ?_, kb.n, fun a z => kb.dom a (dm a z), q2, fun p hp => ?_, q1⟩
  · refine e a x (kb.bh a x z) fun y => ?_
    rw [(kb.own a (sf a y)).1] at z
    cases z
  · refine e a x (kb.e a x z w) fun y => ?_
    rcases (kb.own a (sf a y)).2 with u | u
    · rw [u] at z; cases z
    · exact w u
  · rcases q3 p hp with y | y
    · exact kb.own p y
    · cases y
end
/-- what a method promises: R tells the instance by its state and address -/
def spS (K : PySem.W.Frag) (mg : Str → Option Value) {α : Type} (R : α → Addr → Res) (G : α → List PyData → Oc → α → Prop) : Sp := fun vs H Q E => ∃ B p fp a vs1 ds1 oc a', vs = .ref p :: vs1 ∧ Ex B H ∧ (∀ q ∈ fp, B q = none) ∧ fp.Nodup ∧ (R a p).ok B H (.ref p) fp ∧ DtA K B vs1 ds1 ∧ G a ds1 oc a' ∧
  match oc with
  | .ret d => ∀ H' B' fp' v, Ex B B' → Ex B' H' → (∀ q x, H q = some x → q ∉ fp → H' q = some x) → (∀ q x, B' q = some x → B q = some x ∨ H q = none) → (R a' p).ok B' H' (.ref p) fp' → (∀ q ∈ fp, q ∈ fp') → (∀ q ∈ fp', q ∈ fp ∨ H q = none) → (∀ q ∈ fp', B' q = none) → fp'.Nodup → Dt K B' v d → Q v H'
  | .exc c => ∀ H' cv, (∀ q x, H q = some x → q ∉ fp → H' q = some x) → (∀ q, H' q = none → H q = none) → mg c = some cv → E cv none H'
/-- the class of an instance -/
def clsA (M : Md) (x : Str) : Addr := match M.mg x with
  | some (.ref C) => C
  | _ => 0
structure ClsIn (M : Md) (x : Str) : Prop where
  m : M.mg x = some (.ref (clsA M x))
  c : Cls M.K (clsA M x)
def FnM (M : Md) (k : Nat) (cls m : Str) {α : Type} (R : α → Addr → Res) (G : α → List PyData → Oc → α → Prop) : Prop :=
  ∃ f fd ps, Meth M.K (clsA M cls) m f ∧ FnOk M.P M.w M.K M.mg M.base (L2N.CX M.P M.w) k f fd ps (spS M.K M.mg R G) ∧ Binds M.K fd ps []
/-- a method as it stands in its class -/
def MthIn (M : Md) (cls m qual : Str) (st : Stmt) (ps : List Str) : Prop := ∃ f fd, Fun M.K m qual st f fd ∧ Meth M.K (clsA M cls) m f ∧ Binds M.K fd ps []
/-- a state never loses what it holds -/
def Grows {α : Type} (R : α → Addr → Res) (a a' : α) (p : Addr) : Prop := ∀ B B' H H' f f', (R a p).ok B H (.ref p) f → (R a' p).ok B' H' (.ref p) f' → ∀ q ∈ f, q ∈ f'
def PstM (p : Addr) {α : Type} (R : α → Addr → Res) (oc : Oc) (a' : α) : Pst := ⟨fun ρ => oc = .ret .none ∧ ρ[0]? = some (.rs (R a' p)), fun r ρ => ∃ d, oc = .ret d ∧ r = .im d ∧ ρ[0]? = some (.rs (R a' p)), fun _ => False, fun _ => False, fun c => oc = .exc c⟩
def slotsM (n : Nat) (s : Sl) (ds1 : List PyData) : List Sl := s :: (ds1.map Sl.im ++ List.replicate (n - (ds1.length + 1)) .no)
theorem fnM_ok {M : Md} {cls x qual : Str} {st : Stmt} {f : Addr} {fd : FuncData} {N ps : List Str} {k : Nat} {α : Type} {R : α → Addr → Res} {G : α → List PyData → Oc → α → Prop} (F : Fun M.K x qual st f fd) (hm : Meth M.K (clsA M cls) x f) (hb : Binds M.K fd ps []) (sc : FnScope N ps (defScope st)) (len : ∀ a ds o a', G a ds o a' → ds.length + 1 = ps.length)
    (hv : ∀ a p B H v f, (R a p).ok B H v f → v = .ref p) (hg : ∀ a ds o a' p, G a ds o a' → Grows R a a' p)
    (body : ∀ E p a ds o a', G a ds o a' → RB (M.sh N (defScope st) k E) (slotsM N.length (.rs (R a p)) ds) (defBody st) (PstM p R o a')) : FnM M (k + 1) cls x R G := by
  refine ⟨f, fd, ps, hm, F.okN sc (fun vs H Q E h => ?_) (fun cdv A outer s H vs Q E hr h => ?_), hb⟩
  · obtain ⟨B, p, fp, a, vs1, ds1, oc, a', rfl, _, _, _, _, hd1, hG, _⟩ := h
    have := len a ds1 oc a' hG
    have := hd1.len
    simp
    omega
  · obtain ⟨B, p, fp, a, vs1, ds1, oc, a', rfl, hB, bp, nd, hR, hd1, hG, q⟩ := h
    refine ⟨wB (M.sh N (defScope st) k E) (defBody st), wB_pss ⟨rfl, rfl, rfl, rfl, rfl, rfl, rfl, rfl, hr, L2N.takes_of rfl rfl rfl rfl, passes_of rfl, fun _ _ => rfl, fun _ => ⟨rfl, rfl⟩⟩, ?_⟩
    have k0 : Ok M.K ⟨B, H, fp⟩ (slotsM N.length (.rs (R a p)) ds1) (L2.start N (.ref p :: vs1)) H := by
      refine ⟨B, B, fp, Ex.refl _, Ex.refl _, hB, fun a o z _ => z, fun a o z => .inl z, fun a z => z, nd, fun q hq => ⟨bp q hq, .inr hq⟩, ?_⟩
      unfold slotsM L2.start
      have l1 := hd1.len
      have e1 : (V.ref p :: vs1).length = ds1.length + 1 := by simp [l1]
      rw [e1]
      have := Sls.cons (K := M.K) (C := ⟨B, H, fp⟩) (B := B) (G := B) (H := H) (s := .rs (R a p)) (o := some (.ref p)) (f := fp) (g := []) ⟨_, rfl, hR⟩ (Sls.ofData hd1 (Sls.ofNo (N.length - (ds1.length + 1))))
      rw [List.append_nil] at this
      exact this
    have fin : ∀ (d : PyData) (v : V) (ρ : List Sl) (σ : List (Option V)) (H' : Hp) (B' G' : Hp) (fp' : List Addr), oc = .ret d → OkB M.K ⟨B, H, fp⟩ B' G' fp' ρ σ H' → ρ[0]? = some (.rs (R a' p)) → Dt M.K B' v d → Q v H' := fun d v ρ σ H' B' G' fp' e k2 h0 hd' => by
      subst e
      obtain ⟨o, f1, e1, ⟨u, eu, hR'⟩, sub⟩ := k2.sls.get (i := 0) h0
      obtain ⟨o', f1', e1', ⟨u', eu', hR''⟩, nf1, _, _⟩ := k2.sls.get2 k2.nd (i := 0) h0
      rw [hv _ _ _ _ _ _ hR''] at hR''
      refine q H' B' f1' v k2.b k2.bh (fun q x z w => k2.e q x z w) (fun q x z => ?_) hR'' (hg a ds1 _ a' p hG _ _ _ _ _ _ hR hR'') (fun q hq => ?_) (fun q hq => ?_) nf1 hd'
      · rcases k2.n q x z with y | y
        · exact .inl y
        · exact .inr y
      · rcases (k2.own q (by rename_i hsub _ ; exact hsub q hq)).2 with y | y
        · exact .inr y
        · exact .inl y
      · rename_i hsub _
        exact (k2.own q (hsub q hq)).1
    refine body E p a ds1 oc a' hG _ [] [] _ H _ k0 rfl (fun _ z => nomatch z) ⟨fun ρ σ H' e k1 => ?_, fun r ρ v σ H' e k1 => ?_, fun _ _ _ e => e.elim, fun _ _ _ e => e.elim, fun c cv ρ σ H' e hc k1 => ?_⟩
    · obtain ⟨e, h0⟩ := e
      obtain ⟨B', G', fp', k2⟩ := k1
      exact fin .none .non ρ σ H' B' G' fp' e k2 h0 .non
    · obtain ⟨d, e, rfl, h0⟩ := e
      obtain ⟨B', G', fp', k2, hd'⟩ := k1.head
      exact fin d v ρ σ H' B' G' fp' e k2 h0 hd'
    · have e' : oc = .exc c := e
      subst e'
      obtain ⟨B', G', fp', k2⟩ := k1
      exact q H' cv (fun q x z w => k2.e q x z w) (fun q z => k2.dom q z) hc
end Kd

set_option Elab.async false
set_option linter.all false
set_option maxRecDepth 100000
/-! KeW: instances whose attributes are data: attributes, methods, making. -/
namespace Kd
open PySem L2
open Evl (Ex ex_l ex_t ex_rd fresh_back)
def FsOk (K : PySem.W.Frag) (B : Hp) : List (Str × V) → List (Str × PyData) → Prop
  | [], [] => True
  | (f, v) :: vs, (g, d) :: ds => f = g ∧ Dt K B v d ∧ FsOk K B vs ds
  | _, _ => False
theorem FsOk.mono {K : PySem.W.Frag} {B B' : Hp} (b : Ex B B') : ∀ {vs : List (Str × V)} {ds : List (Str × PyData)}, FsOk K B vs ds → FsOk K B' vs ds
  | [], [], _ => trivial
  | [], _ :: _, h => h.elim
  | _ :: _, [], h => h.elim
  | (f, v) :: vs, (g, d) :: ds, h => ⟨h.1, h.2.1.up b, FsOk.mono b h.2.2⟩
theorem FsOk.get {K : PySem.W.Frag} {B : Hp} {f : Str} {d : PyData} : ∀ {vs : List (Str × V)} {ds : List (Str × PyData)}, FsOk K B vs ds → ds.lookup f = some d → ∃ v, vs.lookup f = some v ∧ Dt K B v d
  | [], [], _, e => nomatch e
  | [], _ :: _, h, _ => h.elim
  | _ :: _, [], h, _ => h.elim
  | (f', v) :: vs, (g, d') :: ds, h, e => by
    obtain ⟨rfl, h2, h3⟩ := h
    rw [List.lookup_cons] at e ⊢
    cases z : f == f' with
    | true =>
      rw [z] at e
      cases e
      exact ⟨v, rfl, h2⟩
    | false =>
      rw [z] at e
      exact h3.get e
theorem FsOk.none {K : PySem.W.Frag} {B : Hp} {f : Str} : ∀ {vs : List (Str × V)} {ds : List (Str × PyData)}, FsOk K B vs ds → ds.lookup f = none → vs.lookup f = none
  | [], [], _, e => rfl
  | [], _ :: _, h, _ => h.elim
  | _ :: _, [], h, _ => h.elim
  | (f', v) :: vs, (g, d') :: ds, h, e => by
    obtain ⟨rfl, h2, h3⟩ := h
    rw [List.lookup_cons] at e ⊢
    cases z : f == f' with
    | true => rw [z] at e; cases e
    | false => rw [z] at e; exact h3.none e
theorem FsOk.len {K : PySem.W.Frag} {B : Hp} : ∀ {vs : List (Str × V)} {ds : List (Str × PyData)}, FsOk K B vs ds → vs.length = ds.length
  | [], [], _ => rfl
  | [], _ :: _, h => h.elim
  | _ :: _, [], h => h.elim
  | _ :: _, _ :: _, h => congrArg (· + 1) h.2.2.len
def putFD (f : Str) (v : PyData) : List (Str × PyData) → List (Str × PyData)
  | [] => [(f, v)]
  | (g, x) :: r => if g = f then (g, v) :: r else (g, x) :: putFD f v r
theorem FsOk.put {K : PySem.W.Frag} {B : Hp} {f : Str} {y : V} {d : PyData} (hd : Dt K B y d) : ∀ {vs : List (Str × V)} {ds : List (Str × PyData)}, FsOk K B vs ds → FsOk K B (putF f y vs) (putFD f d ds)
  | [], [], _ => ⟨rfl, hd, trivial⟩
  | [], _ :: _, h => h.elim
  | _ :: _, [], h => h.elim
  | (f', v) :: vs, (g, d') :: ds, h => by
    obtain ⟨rfl, h2, h3⟩ := h
    unfold putF putFD
    by_cases z : f' = f
    · rw [if_pos z, if_pos z]
      exact ⟨rfl, hd, h3⟩
    · rw [if_neg z, if_neg z]
      exact ⟨rfl, h2, h3.put hd⟩
/-- an instance of C at p with such attributes -/
def insR (K : PySem.W.Frag) (C : Addr) (fs : List (Str × PyData)) (p : Addr) : Res where
  ok := fun B H v fp => v = .ref p ∧ fp = [p] ∧ ∃ dx vs, H p = some (.ins C dx vs) ∧ FsOk K B vs fs
  keep := by
    rintro B H B' H' v fp ⟨rfl, rfl, dx, vs, h, k⟩ b e
    exact ⟨rfl, rfl, dx, vs, by rw [e p (by simp)]; exact h, k.mono b⟩
  al := by
    rintro B H v fp ⟨rfl, rfl, dx, vs, h, k⟩ q hq
    rw [List.mem_singleton] at hq
    subst hq
    rw [h]
    exact fun z => nomatch z
section
variable {S : Sh} {ρ : List Sl} {e a b : Expr} {es : List Expr} {rest : List Stmt} {pos p1 p2 : Pos} {P : Pst} {fl : Bool} {Q : Sl → List Sl → Prop} {X : Str → Prop} {x f : Str} {i : Nat} {fs : List (Str × PyData)} {d : PyData} {C p : Addr}
theorem ins_at {Cc : Cz} {τ : List Sl} {vs σ : List (Option V)} {H : Hp} (k : Ok S.K Cc (τ ++ ρ) (vs ++ σ) H) (l : τ.length = vs.length) (hr : ρ[i]? = some (.rs (insR S.K C fs p))) : σ[i]? = some (some (.ref p)) ∧ ∃ B G fp dx ws, OkB S.K Cc B G fp (τ ++ ρ) (vs ++ σ) H ∧ H p = some (.ins C dx ws) ∧ FsOk S.K B ws fs := by
  obtain ⟨B, G, fp, k1⟩ := k
  obtain ⟨o, f1, e1, ⟨v, e2, rfl, _, dx, ws, h1, h2⟩, _⟩ := k1.sls.get (off_get (τ := τ) hr)
  rw [l, List.getElem?_append_right (Nat.le_add_right _ _), Nat.add_sub_cancel_left] at e1
  exact ⟨by rw [e1, e2], B, G, fp, dx, ws, k1, h1, h2⟩
/-- x.f -/
theorem ce_fldI (hN : Ix S.N i x) (hr : ρ[i]? = some (.rs (insR S.K C fs p))) (hf : fs.lookup f = some d) (hc : Cls S.K C) (hn : NoAttr S.K C f) (hv : Vis S.sc x) (q : Q (.im d) ρ) (hd : (x == ("__debug__" : Str)) = false := by decide) (hcd : (x == ("__classdict__" : Str)) = false := by decide)
    (hb : ∀ X : Cx, attributeBase (.Name x p1) f X.env (eval (.Name x p1) X.env) = eval (.Name x p1) X.env := by intro _; rfl) : CE S fl ρ (.Attribute (.Name x p1) f pos) X Q := fun Cc τ vs σ H k l nv QQ qq xx =>
  ⟨tFld S.K (tVar i) f, fun X hX => by
    rw [← hX.K]
    exact pe_fld (pe_var (by rw [hX.N]; exact hN.get) (by rw [hX.sc]; exact hv) hd hcd) (hb X), by
    obtain ⟨ev, B, G, fp, dx, ws, k1, h1, h2⟩ := ins_at k l hr
    obtain ⟨w, h3, h4⟩ := h2.get hf
    exact ⟨.ref p, ev, p, C, dx, ws, w, rfl, h1, hc, hn, h3, qq _ _ _ _ q (k1.put h4)⟩⟩
/-- x.f = e -/
theorem rc_fldI (hN : Ix S.N i x) (hv : Vis S.sc x) (hc : Cls S.K C) (hn : NoAttr S.K C f) (h : CE S true ρ e P.ex fun r ρ1 => ImK r fun d => ∃ fs, ρ1[i]? = some (.rs (insR S.K C fs p)) ∧ fs.length < 900 ∧ ρ1.all noV = true ∧ RB S (ρ1.set i (.rs (insR S.K C (putFD f d fs) p))) rest P)
    (hd : (x == ("__debug__" : Str)) = false := by decide) (hcd : (x == ("__classdict__" : Str)) = false := by decide)
    (hs : ∀ X : Cx, swapsWith e (some (.Attribute (.Name x p1) f p2)) pos.line X.env = pure false := by intro _; rfl) : RB S ρ (.Assign [.Attribute (.Name x p1) f p2] e pos :: rest) P :=
  rb_cons (rs_of (t := sFld S.K (tVar i) (wE S e) f) (fun X hX => by
      rw [← hX.K]
      exact ps_fld (pe_var (by rw [hX.N]; exact hN.get) (by rw [hX.sc]; exact hv) hd hcd) (wE_pe hX) (hs X)) fun Cc τ vs σ H D k l nvt m => h Cc τ vs σ H k l (fun _ => nvt) _ (fun r ρ1 y H1 z k2 => by
    have fin : ∀ d, Ok S.K Cc (.im d :: (τ ++ ρ1)) (some y :: (vs ++ σ)) H1 → (∃ fs, ρ1[i]? = some (.rs (insR S.K C fs p)) ∧ fs.length < 900 ∧ ρ1.all noV = true ∧ RB S (ρ1.set i (.rs (insR S.K C (putFD f d fs) p))) rest P) → tVar i σ H1 fun x H2 => ∃ a C dx fs, x = .ref a ∧ H2 a = some (.ins C dx fs) ∧ Cls S.K C ∧ NoAttr S.K C f ∧ fs.length < 1000 ∧ D.nx σ (upd H2 a (.ins C dx (putF f y fs))) := fun d k2 z => by
      obtain ⟨fs, hr, hz, nv, q⟩ := z
      obtain ⟨B, G, fp, k3, hy⟩ := k2.head
      obtain ⟨v, g, ev, ⟨rfl, rfl, dx, ws, h1, h2⟩, nf, bf, fin⟩ := k3.turnF (nv_all nvt nv) (off_get (τ := τ) hr)
      rw [l, List.getElem?_append_right (Nat.le_add_right _ _), Nat.add_sub_cancel_left] at ev
      refine ⟨.ref p, ev, p, C, dx, ws, rfl, h1, hc, hn, by rw [h2.len]; omega, m.nx _ σ _ q ?_⟩
      have bp := bf p (by simp)
      obtain ⟨fp', k4⟩ := fin B (upd H1 p (.ins C dx (putF f y ws))) (insR S.K C (putFD f d fs) p) [p] (Ex.refl _) (fun a x z => by
        rw [upd_ne (ne_of_none z bp)]
        exact k3.bh a x z) (fun a x z w => by
        rw [upd_ne (fun e => w (by simp [e]))]
        exact z) (fun a x z => .inl z) ⟨rfl, rfl, dx, _, upd_same, h2.put hy⟩ (fun _ z => z) (fun _ z => .inl z) bf nf
      rw [off_set] at k4
      exact ⟨_, _, _, k4⟩
    rcases z with ⟨d, rfl, z⟩ | ⟨ds, rfl, z⟩
    · exact fin d k2 z
    · exact fin _ k2.freeze z) (fun c cv ρ2 H2 h1 h2 h3 => m.ex c cv ρ2 σ H2 h1 h2 h3))
/-- x.f += e -/
theorem rc_fldAdd {u : Int} (hN : Ix S.N i x) (hv : Vis S.sc x) (hc : Cls S.K C) (hn : NoAttr S.K C f) (hr : ρ[i]? = some (.rs (insR S.K C fs p))) (hf : fs.lookup f = some (.int u)) (hz : fs.length < 900) (nv : ρ.all noV = true) {w : Int} (h : VE S ρ e (.im (.int w))) (q : RB S (ρ.set i (.rs (insR S.K C (putFD f (.int (u + w)) fs) p))) rest P)
    (hd : (x == ("__debug__" : Str)) = false := by decide) (hcd : (x == ("__classdict__" : Str)) = false := by decide) : RB S ρ (.AugAssign (.Attribute (.Name x p1) f p2) .Add e pos :: rest) P :=
  rb_cons (rs_of (t := sFldAug S.K (tVar i) (wE S e) rAdd f) (fun X hX => by
      rw [← hX.K]
      exact ps_fldaug (pe_var (by rw [hX.N]; exact hN.get) (by rw [hX.sc]; exact hv) hd hcd) (wE_pe hX) in_add) fun Cc τ vs σ H D k l nvt m => by
    obtain ⟨ev, B0, G0, fp0, dx, ws, k1, h1, h2⟩ := ins_at k l hr
    obtain ⟨v0, h3, h4⟩ := h2.get hf
    cases h4
    refine ⟨.ref p, ev, p, C, dx, ws, .int u, rfl, h1, hc, hn, h3, h Cc τ vs σ H k l _ fun y H2 k2 => ?_⟩
    have ey := k2.int
    subst ey
    refine ⟨u, w, rfl, rfl, ?_⟩
    obtain ⟨B, G, fp, k3⟩ := k2.tail
    obtain ⟨v, g, ev2, ⟨rfl, rfl, dx, ws, h1, h2⟩, nf, bf, fin⟩ := k3.turnF (nv_all nvt nv) (off_get (τ := τ) hr)
    refine ⟨dx, ws, h1, by rw [h2.len]; omega, m.nx _ σ _ q ?_⟩
    have bp := bf p (by simp)
    obtain ⟨fp', k4⟩ := fin B (upd H2 p (.ins C dx (putF f (.int (u + w)) ws))) (insR S.K C (putFD f (.int (u + w)) fs) p) [p] (Ex.refl _) (fun a x z => by
      rw [upd_ne (ne_of_none z bp)]
      exact k3.bh a x z) (fun a x z w => by
      rw [upd_ne (fun e => w (by simp [e]))]
      exact z) (fun a x z => .inl z) ⟨rfl, rfl, dx, _, upd_same, h2.put (.int _)⟩ (fun _ z => z) (fun _ z => .inl z) bf nf
    rw [off_set] at k4
    exact ⟨_, _, _, k4⟩)
end
end Kd

set_option Elab.async false
set_option linter.all false
set_option maxRecDepth 100000
/-! KeX: methods called, instances made, attributes as targets. -/
namespace Kd
open PySem L2
open Evl (Ex ex_l ex_t ex_rd fresh_back)
def MCallG {α : Type} (G : α → List PyData → Oc → α → Prop) (a : α) (ds : List PyData) (K : PyData → α → Prop) (X : Str → Prop) : Prop := ∃ oc a', G a ds oc a' ∧ match oc with | .ret d => K d a' | .exc c => X c
theorem mret {α : Type} {G : α → List PyData → Oc → α → Prop} {a a' : α} {ds : List PyData} {d : PyData} {K : PyData → α → Prop} {X : Str → Prop} (g : G a ds (.ret d) a') (q : K d a') : MCallG G a ds K X := ⟨.ret d, a', g, q⟩
theorem mexc {α : Type} {G : α → List PyData → Oc → α → Prop} {a a' : α} {ds : List PyData} {c : Str} {K : PyData → α → Prop} {X : Str → Prop} (g : G a ds (.exc c) a') (q : X c) : MCallG G a ds K X := ⟨.exc c, a', g, q⟩
/-- what is asked of the family of states: where the instance is, what it is of, its methods are no attributes -/
structure InsF (K : PySem.W.Frag) (C : Addr) {α : Type} (R : α → Addr → Res) : Prop where
  v : ∀ a p B H v f, (R a p).ok B H v f → v = .ref p
  i : ∀ a p B H f, (R a p).ok B H (.ref p) f → ∃ dx fs, H p = some (.ins C dx fs)
def NoMeth {α : Type} (K : PySem.W.Frag) (C : Addr) (R : α → Addr → Res) (a : α) (m : Str) : Prop := ∀ p B H f dx fs, (R a p).ok B H (.ref p) f → H p = some (.ins C dx fs) → fs.lookup m = none
section
variable {S : Sh} {ρ : List Sl} {e : Expr} {es : List Expr} {pos p1 p2 : Pos} {Q : Sl → List Sl → Prop} {X : Str → Prop} {x m cls : Str} {i k : Nat} {α : Type} {R : α → Addr → Res} {G : α → List PyData → Oc → α → Prop} {p : Addr} {a0 : α}
theorem meth_fin {Cc : Cz} {τ ρ1 : List Sl} {vs σ : List (Option V)} {H1 : Hp} {QQ : VK} {ds : List PyData} {ws : List V} {a : α} (I : InsF S.K (clsA S.toMd cls) R) (k1 : Ok S.K Cc ((ds.map Sl.im).reverse ++ (τ ++ ρ1)) (ws.reverse.map some ++ (vs ++ σ)) H1) (lw : ws.length = ds.length) (l : τ.length = vs.length) (nvt : ∀ s ∈ τ, noV s = true) (hr : ρ1[i]? = some (.rs (R a p))) (nv : ρ1.all noV = true)
    (z : MCallG G a ds (fun d a' => Q (.im d) (ρ1.set i (.rs (R a' p)))) X) (qq : ∀ r ρ' v H', Q r ρ' → Ok S.K Cc (r :: (τ ++ ρ')) (some v :: (vs ++ σ)) H' → QQ v H') (xx : XH S Cc τ vs σ X) : spS S.K S.mg R G (.ref p :: (ws ++ [])) H1 QQ S.E := by
  obtain ⟨B, G', fp, k2, hd⟩ := k1.rev lw
  obtain ⟨oc, a', hG, h3⟩ := z
  cases oc with
  | ret d =>
    obtain ⟨v, f, ev, hR, nf, bf, fin⟩ := k2.turnF (nv_all nvt nv) (off_get (τ := τ) hr)
    have ev' := I.v _ _ _ _ _ _ hR
    subst ev'
    refine ⟨B, p, f, a, ws, ds, .ret d, a', by rw [List.append_nil], k2.bh, bf, nf, hR, hd, hG, fun H' B' fp' v b h e n hR' s1 s2 hb nd' hv => qq _ _ v H' h3 ?_⟩
    obtain ⟨fp2, k3⟩ := fin B' H' (R a' p) fp' b h e n hR' s1 s2 hb nd'
    rw [off_set] at k3
    exact k3.put hv
  | exc c =>
    obtain ⟨v, f, ev, hR, nf, bf, fin⟩ := k2.lostF (nv_all nvt nv) (off_get (τ := τ) hr)
    have ev' := I.v _ _ _ _ _ _ hR
    subst ev'
    refine ⟨B, p, f, a, ws, ds, .exc c, a', by rw [List.append_nil], k2.bh, bf, nf, hR, hd, hG, fun H' cv e dm hm => ?_⟩
    have k3 := fin H' e dm
    rw [off_set] at k3
    exact xx c cv _ H' h3 hm k3
/-- x.m(e, ..) -/
theorem ce_meth {pl : Cx → Sem Bool} (hF : FnM S.toMd k cls m R G) (I : InsF S.K (clsA S.toMd cls) R) (hc : ClsIn S.toMd cls) (hN : Ix S.N i x) (hv : Vis S.sc x) (hr0 : ρ[i]? = some (.rs (R a0 p))) (hm : NoMeth S.K (clsA S.toMd cls) R a0 m)
    (h : CI S true ρ (e :: es) X fun ds ρ1 => ∃ a, ρ1[i]? = some (.rs (R a p)) ∧ ρ1.all noV = true ∧ MCallG G a ds (fun d a' => Q (.im d) (ρ1.set i (.rs (R a' p)))) X) (hk : k ≤ S.k)
    (hd : (x == ("__debug__" : Str)) = false := by decide) (hcd : (x == ("__classdict__" : Str)) = false := by decide)
    (hst : ∀ X : Cx, starEach (e :: es) X.env = (false, eval e X.env) :: starEach es X.env := by intro _; rfl) (hpl : ∀ X : Cx, (backTo pos (starEach es X.env)).any (·.1) = false := by intro _; rfl)
    (ht : ∀ X : Cx, eval (.Call (.Attribute (.Name x p1) m p2) (e :: es) [] pos) X.env = (do
      let ov ← eval (.Name x p1) X.env
      standAt p2.atName
      let (f, first) ← holding [ov] (getMethod ov m (pl X))
      callWith pos f first (backTo pos (starEach (e :: es) X.env)) (backToKw pos (keywordEach [] X.env))) := by intro _; rfl) :
    CE S true ρ (.Call (.Attribute (.Name x p1) m p2) (e :: es) [] pos) X Q := by
  obtain ⟨f, fd, ps, hmm, F, hb⟩ := hF
  intro Cc τ vs σ H kk l nv QQ qq xx
  refine ⟨tMeth (clsA S.toMd cls) m (spS S.K S.mg R G) [] S.E (tVar i) (wA S (e :: es)), fun X hX => ?_, ?_⟩
  · refine pe_meth (pl := pl X) (CX := L2N.CX S.P S.w) (k := k) (f := f) (fd := fd) (ps := ps) (ds := []) (pe_var (by rw [hX.N]; exact hN.get) (by rw [hX.sc]; exact hv) hd hcd) (by rw [hX.K]; exact hc.c) (by rw [hX.K]; exact hmm) ?_ (hX.room.mono hk) (by rw [hX.K]; exact hb) .nil (pass_S hX) (wA_pa hX) (hst X) (hpl X) (ht X)
    rw [hX.prog, hX.w, hX.K, hX.mg, hX.base]
    exact F
  · obtain ⟨B, G', fp, k1⟩ := kk
    obtain ⟨o, f1, e1, ⟨v, e2, hR⟩, _⟩ := k1.sls.get (off_get (τ := τ) hr0)
    have ev := I.v _ _ _ _ _ _ hR
    subst ev
    obtain ⟨dx, fs, hi⟩ := I.i _ _ _ _ _ hR
    rw [l, List.getElem?_append_right (Nat.le_add_right _ _), Nat.add_sub_cancel_left] at e1
    refine ⟨.ref p, by rw [e1, e2], p, dx, fs, rfl, hi, hm _ _ _ _ _ _ hR hi, h Cc τ vs σ H ⟨B, G', fp, k1⟩ l nv _ (fun ds ρ1 ws H1 z lw k2 => ?_) xx⟩
    obtain ⟨a, hr, nvr, z⟩ := z
    exact meth_fin I k2 lw l (nv rfl) hr nvr z qq xx
/-- x.m() -/
theorem ce_meth0 {pl : Cx → Sem Bool} (hF : FnM S.toMd k cls m R G) (I : InsF S.K (clsA S.toMd cls) R) (hc : ClsIn S.toMd cls) (hN : Ix S.N i x) (hv : Vis S.sc x) (hr0 : ρ[i]? = some (.rs (R a0 p))) (hm : NoMeth S.K (clsA S.toMd cls) R a0 m) (nvr : ρ.all noV = true)
    (h : MCallG G a0 [] (fun d a' => Q (.im d) (ρ.set i (.rs (R a' p)))) X) (hk : k ≤ S.k)
    (hd : (x == ("__debug__" : Str)) = false := by decide) (hcd : (x == ("__classdict__" : Str)) = false := by decide)
    (ht : ∀ X : Cx, eval (.Call (.Attribute (.Name x p1) m p2) [] [] pos) X.env = (do
      let ov ← eval (.Name x p1) X.env
      standAt p2.atName
      let (f, first) ← holding [ov] (getMethod ov m (pl X))
      callWith pos f first (backTo pos (starEach [] X.env)) (backToKw pos (keywordEach [] X.env))) := by intro _; rfl) :
    CE S true ρ (.Call (.Attribute (.Name x p1) m p2) [] [] pos) X Q := by
  obtain ⟨f, fd, ps, hmm, F, hb⟩ := hF
  intro Cc τ vs σ H kk l nv QQ qq xx
  refine ⟨tMeth (clsA S.toMd cls) m (spS S.K S.mg R G) [] S.E (tVar i) tNil, fun X hX => ?_, ?_⟩
  · refine pe_meth0 (pl := pl X) (CX := L2N.CX S.P S.w) (k := k) (f := f) (fd := fd) (ps := ps) (ds := []) (pe_var (by rw [hX.N]; exact hN.get) (by rw [hX.sc]; exact hv) hd hcd) (by rw [hX.K]; exact hc.c) (by rw [hX.K]; exact hmm) ?_ (hX.room.mono hk) (by rw [hX.K]; exact hb) .nil (pass_S hX) (ht X)
    rw [hX.prog, hX.w, hX.K, hX.mg, hX.base]
    exact F
  · obtain ⟨B, G', fp, k1⟩ := kk
    obtain ⟨o, f1, e1, ⟨v, e2, hR⟩, _⟩ := k1.sls.get (off_get (τ := τ) hr0)
    have ev := I.v _ _ _ _ _ _ hR
    subst ev
    obtain ⟨dx, fs, hi⟩ := I.i _ _ _ _ _ hR
    rw [l, List.getElem?_append_right (Nat.le_add_right _ _), Nat.add_sub_cancel_left] at e1
    exact ⟨.ref p, by rw [e1, e2], p, dx, fs, rfl, hi, hm _ _ _ _ _ _ hR hi, meth_fin (ds := []) (ws := []) I ⟨B, G', fp, k1⟩ rfl l (nv rfl) hr0 nvr h qq xx⟩
end
/-! making -/
/-- a class whose instances may be made; its __init__ -/
def FnMk (M : Md) (k : Nat) (cls : Str) {α : Type} (R : α → Addr → Res) (G : α → List PyData → Oc → α → Prop) : Prop :=
  ∃ f fd ps, Mk M.K (clsA M cls) f ∧ FnOk M.P M.w M.K M.mg M.base (L2N.CX M.P M.w) k f fd ps (spS M.K M.mg R G) ∧ Binds M.K fd ps []
theorem FnM.mk {M : Md} {k : Nat} {cls : Str} {α : Type} {R : α → Addr → Res} {G : α → List PyData → Oc → α → Prop} (h : FnM M k cls "__init__" R G) (hm : ∀ f, Meth M.K (clsA M cls) "__init__" f → Mk M.K (clsA M cls) f) : FnMk M k cls R G := by
  obtain ⟨f, fd, ps, h1, h2, h3⟩ := h
  exact ⟨f, fd, ps, hm f h1, h2, h3⟩
section
variable {S : Sh} {ρ : List Sl} {e : Expr} {es : List Expr} {pos p1 p2 : Pos} {Q : Sl → List Sl → Prop} {X : Str → Prop} {cls : Str} {k : Nat} {G : List (Str × PyData) → List PyData → Oc → List (Str × PyData) → Prop}
theorem OkB.putRs {K : PySem.W.Frag} {C : Cz} {B B' G H H' : Hp} {fp f : List Addr} {l : List Sl} {os : List (Option V)} {R : Res} {v : V} (k : OkB K C B G fp l os H) (b : Ex B B') (h : Ex B' H') (e : Ex H H') (n : ∀ a x, B' a = some x → B a = some x ∨ H a = none)
    (hR : R.ok B' H' v f) (nf : f.Nodup) (new : ∀ q ∈ f, H q = none) (hb : ∀ q ∈ f, B' q = none) : Ok K C (.rs R :: l) (some v :: os) H' := by
  obtain ⟨G', k2⟩ := k.back b h e n
  refine ⟨B', G', f ++ fp, k2.b, k2.g, k2.h, k2.e, k2.n, k2.dom, List.nodup_append.mpr ⟨nf, k2.nd, fun p hp q hq epq => ?_⟩, fun p hp => ?_, .cons ⟨v, rfl, hR⟩ k2.sls⟩
  · subst epq
    exact k.sls.al p hq (new p hp)
  · rcases List.mem_append.mp hp with hp | hp
    · exact ⟨hb p hp, .inl (k.dom p (new p hp))⟩
    · exact k2.own p hp
/-- C(e, ..) -/
theorem ce_make (hF : FnMk S.toMd k cls (insR S.K (clsA S.toMd cls)) G) (hc : ClsIn S.toMd cls)
    (h : CI S true ρ (e :: es) X fun ds ρ1 => ∃ oc a', G [] ds oc a' ∧ match oc with | .ret d => d = .none ∧ ∀ p, Q (.rs (insR S.K (clsA S.toMd cls) a' p)) ρ1 | .exc c => X c) (hk : k + 1 ≤ S.k)
    (hg : S.sc.names.lookup cls = some .globalImplicit) (hdb : (cls == ("__debug__" : Str)) = false := by decide)
    (he : ∀ X : Cx, starEach (e :: es) X.env = (false, eval e X.env) :: starEach es X.env := by intro _; rfl) (hpl : ∀ X : Cx, (backTo pos (starEach es X.env)).any (·.1) = false := by intro _; rfl) :
    CE S true ρ (.Call (.Name cls p1) (e :: es) [] pos) X Q := by
  obtain ⟨f, fd, ps, hmk, F, hb⟩ := hF
  intro Cc τ vs σ H kk l nv QQ qq xx
  refine ⟨tMake (clsA S.toMd cls) (spS S.K S.mg (insR S.K (clsA S.toMd cls)) G) [] S.E (wA S (e :: es)), fun X hX => ?_, h Cc τ vs σ H kk l nv _ (fun ds ρ1 ws H1 z lw k1 => ?_) xx⟩
  · refine pe_make (CX := L2N.CX S.P S.w) (k := k) (f := f) (fd := fd) (ps := ps) (ds := []) (by rw [hX.K]; exact hmk) ?_ (hX.room.mono hk) (by show X.env.scope.names.lookup cls = _; rw [hX.sc]; exact hg) (by rw [hX.mg]; exact hc.m) (by rw [hX.K]; exact hb) .nil (pass_S hX) (wA_pa hX) hdb (he X) (hpl X)
    rw [hX.prog, hX.w, hX.K, hX.mg, hX.base]
    exact F
  · intro x dx hx hdx hne
    obtain ⟨B, G', fp, k2, hd⟩ := k1.rev lw
    obtain ⟨oc, a', hG, h3⟩ := z
    have e1 : Ex H1 (upd (upd H1 dx (.own x)) x (.ins (clsA S.toMd cls) dx [])) := (Ex.new hdx).trans (Ex.new (by rw [upd_ne (fun z => hne z.symm)]; exact hx))
    have bx : B x = none := (Ok.fresh k2 hx).1
    have nn : ∀ q, upd (upd H1 dx (.own x)) x (.ins (clsA S.toMd cls) dx []) q = none → H1 q = none := fun q z => fresh_back e1 z
    cases oc with
    | ret d =>
      obtain ⟨rfl, h3⟩ := h3
      refine ⟨B, x, [x], [], ws, ds, .ret .none, a', by rw [List.append_nil], k2.bh.trans e1, fun q hq => by rw [List.mem_singleton.mp hq]; exact bx, (by simp), ⟨rfl, rfl, dx, [], upd_same, trivial⟩, hd, hG, fun H' B' fp' v b h e n hR' s1 s2 hb2 nd' hv => ?_⟩
      have hv' : v = .non := by cases hv; rfl
      refine ⟨hv', qq _ _ (.ref x) H' (h3 x) ?_⟩
      refine k2.putRs b h (fun q y z => e q y (e1 q y z) fun w => ?_) (fun q y z => ?_) hR' nd' (fun q hq => ?_) hb2
      · rw [List.mem_singleton.mp w, hx] at z
        cases z
      · rcases n q y z with w | w
        · exact .inl w
        · exact .inr (nn q w)
      · rcases s2 q hq with w | w
        · rw [List.mem_singleton.mp w]
          exact hx
        · exact nn q w
    | exc c =>
      refine ⟨B, x, [x], [], ws, ds, .exc c, a', by rw [List.append_nil], k2.bh.trans e1, fun q hq => by rw [List.mem_singleton.mp hq]; exact bx, (by simp), ⟨rfl, rfl, dx, [], upd_same, trivial⟩, hd, hG, fun H' cv e dm hm => ?_⟩
      refine xx c cv ρ1 H' h3 hm ⟨B, G', fp, k2.grow fun q y z => e q y (e1 q y z) fun w => ?_⟩
      rw [List.mem_singleton.mp w, hx] at z
      cases z
end
theorem insF (K : PySem.W.Frag) (C : Addr) : InsF K C (insR K C) := ⟨fun _ _ _ _ _ _ h => h.1, fun _ _ _ _ _ h => by obtain ⟨_, _, dx, vs, h, _⟩ := h; exact ⟨dx, vs, h⟩⟩
theorem ins_grows {K : PySem.W.Frag} {C : Addr} (a a' : List (Str × PyData)) (p : Addr) : Grows (insR K C) a a' p := by
  rintro B B' H H' f f' ⟨_, rfl, _⟩ ⟨_, rfl, _⟩ q hq
  exact hq
theorem ins_nometh {K : PySem.W.Frag} {C : Addr} {a : List (Str × PyData)} {m : Str} (h : a.lookup m = none) : NoMeth K C (insR K C) a m := by
  rintro p B H f dx fs ⟨_, _, dx', vs, h1, h2⟩ h3
  rw [h1] at h3
  cases h3
  exact h2.none h
/-! attributes as targets -/
/-- o.f = .. -/
def gFld (K : PySem.W.Frag) (to : TE) (f : Str) : TG := fun v σ H Q => to σ H fun x H1 => ∃ a C dx fs, x = .ref a ∧ H1 a = some (.ins C dx fs) ∧ Cls K C ∧ NoAttr K C f ∧ fs.length < 1000 ∧ Q σ (upd H1 a (.ins C dx (putF f v fs)))
theorem pg_fld {X : Cx} {o : Expr} {f : Str} {pos : Pos} {to : TE} (ho : PE X o to)
    (ha : ∀ v, assign (.Attribute o f pos) X.env v = (do
      let ov ← holding [v] (eval o X.env)
      standAt pos.atName
      holding [v, ov] (setAttr ov f v)
      release [v, ov] []) := by intro _; rfl) : PG X (.Attribute o f pos) (gFld X.K to f) := by
  refine ⟨fun pins s σ H v u Q I r h => ?_⟩
  rw [ha]
  refine wpAny_bind (wpAny_holding (thn (ho.run pins s σ H _ I h) fun ov s1 ⟨x, H1, I1, r1, a, C, dx, fs, ex, ea, c, n, hl, q⟩ => ?_))
  subst ex
  obtain rfl : ov = Value.ref a := r1
  refine wpAny_bind (wpAny_standAt (wpAny_bind (wpAny_holding ?_)))
  exact setattr_ok I1 ea c n hl r fun s3 I3 => wpAny_release ⟨σ, _, I3, q⟩
section
variable {S : Sh} {ρ : List Sl} {e : Expr} {rest : List Stmt} {pos px p1 p2 pt : Pos} {x y f : Str} {i j : Nat} {C p : Addr} {P : Pst}
/-- x, y.f = a pair -/
theorem rc_parFld {kt : _} (hN : Ix S.N i x) (hM : Ix S.N j y) (hv : Vis S.sc y) (hc : Cls S.K C) (hn : NoAttr S.K C f) (h : CE S true ρ e P.ex fun r ρ1 => ∃ d1 d2 fs, r = .im (.tuple [d1, d2]) ∧ (ρ1.set i (.im d1))[j]? = some (.rs (insR S.K C fs p)) ∧ fs.length < 900 ∧ (ρ1.set i (.im d1)).all noV = true ∧ RB S ((ρ1.set i (.im d1)).set j (.rs (insR S.K C (putFD f d2 fs) p))) rest P)
    (hnd : S.N.Nodup) (hx : Loc S.sc x) (hd : (y == ("__debug__" : Str)) = false := by decide) (hcd : (y == ("__classdict__" : Str)) = false := by decide)
    (hf : S.fa = true ∨ S.sc.names.lookup x = some .local := by first | exact .inl rfl | exact .inr rfl)
    (hw : swappedStores [.Tuple [.Name x px, .Attribute (.Name y p1) f p2] kt pt] e (env0 S.sc) = pure none := by rfl)
    (hs : ∀ X : Cx, swapsWithSole [.Tuple [.Name x px, .Attribute (.Name y p1) f p2] kt pt] e pos.line X.env = pure false := by intro _; rfl) :
    RB S ρ (.Assign [.Tuple [.Name x px, .Attribute (.Name y p1) f p2] kt pt] e pos :: rest) P :=
  rb_cons (rs_of (t := tAsg (wE S e) (gTup S.K 2 (gCons (gName i) (gCons (gFld S.K (tVar j) f) gNil)))) (fun X hX => ps_asg (wE_pe hX) (by
      rw [← hX.K]
      exact pg_tup hX.calm (pgs_cons (pg_name (by rw [hX.N]; exact hnd) (by rw [hX.N]; exact hN.get) (by rw [hX.sc]; exact hx) (hf.elim (fun z => .inl (hX.fn z x)) fun z => .inr (by rw [hX.sc]; exact z))) (pgs_cons (pg_fld (pe_var (by rw [hX.N]; exact hM.get) (by rw [hX.sc]; exact hv) hd hcd)) pgs_nil))) (hs X) ((swap_env hX.sc).trans hw)) fun Cc τ vs σ H D k l nvt m => h Cc τ vs σ H k l (fun _ => nvt) _ (fun r ρ1 v H1 z k2 => by
    obtain ⟨d1, d2, fs, rfl, hr, hz, nv, q⟩ := z
    obtain ⟨B, G, fp, k3, hv⟩ := k2.head
    cases hv with
    | @tup a xs _ hs hx =>
      cases hx with
      | @cons w1 ws _ _ h1 hx =>
        cases hx with
        | @cons w2 ws _ _ h2 hx =>
          cases hx
          refine ⟨a, [w1, w2], rfl, ex_t k3.bh hs, rfl, w1, [w2], rfl, w2, [], rfl, ?_⟩
          have k4 : Ok S.K Cc (.im d1 :: .im d2 :: (τ ++ ρ1)) (some w1 :: some w2 :: (vs ++ σ)) H1 := (k3.cons0 (s := .im d2) (o := some w2) ⟨rfl, w2, rfl, h2⟩).put h1
          have k6 := Ok.set (i := τ.length + i + 1) k4
          rw [List.set_cons_succ, List.set_cons_succ, off_set, l, List.set_append_right _ _ (Nat.le_add_right _ _), Nat.add_sub_cancel_left] at k6
          obtain ⟨B, G, fp, k7, h2⟩ := k6.head
          obtain ⟨v, g, ev, ⟨rfl, rfl, dx, us, h3, h4⟩, nf, bf, fin⟩ := k7.turnF (nv_all nvt nv) (off_get (τ := τ) hr)
          rw [l, List.getElem?_append_right (Nat.le_add_right _ _), Nat.add_sub_cancel_left] at ev
          refine ⟨.ref p, ev, p, C, dx, us, rfl, h3, hc, hn, by rw [h4.len]; omega, rfl, m.nx _ _ _ q ?_⟩
          have bp := bf p (by simp)
          obtain ⟨fp', k8⟩ := fin B (upd H1 p (.ins C dx (putF f w2 us))) (insR S.K C (putFD f d2 fs) p) [p] (Ex.refl _) (fun a x z => by
            rw [upd_ne (ne_of_none z bp)]
            exact k7.bh a x z) (fun a x z w => by
            rw [upd_ne (fun e => w (by simp [e]))]
            exact z) (fun a x z => .inl z) ⟨rfl, rfl, dx, _, upd_same, h4.put h2⟩ (fun _ z => z) (fun _ z => .inl z) bf nf
          rw [off_set] at k8
          exact ⟨_, _, _, k8⟩) (fun c cv ρ2 H2 h1 h2 h3 => m.ex c cv ρ2 σ H2 h1 h2 h3))
end
end Kd

set_option Elab.async false
set_option linter.all false
set_option maxRecDepth 100000
/-! KeY: int(x, 2), x.find(y, i). -/
namespace Kd
open PySem PySem.Spec PyProof.Rows L2
open PySem.NumText PySem.Calls
def Bit (c : Nat) : Prop := c = 48 ∨ c = 49
theorem Bit.hex {c : Nat} (h : Bit c) : Hx.IsHex c := .inl (by unfold Bit at h; omega)
theorem Bit.hv {c : Nat} (h : Bit c) : Hx.hv c = c - 48 := if_pos (by unfold Bit at h; omega)
def binN (l : List Nat) : Nat := l.foldl (fun a c => a * 2 + (c - 48)) 0
theorem step_bit {ds : Array Nat} {b : Bool} {c : Nat} (h : Bit c) : PySem.NumText.step 2 (ds, b) c = some (ds.push (c - 48), true) := by
  have g := h
  unfold Bit at g
  unfold PySem.NumText.step
  rw [if_neg (by rw [beq_iff_eq]; omega), Hx.digit_hex h.hex, h.hv]
  exact if_pos (by omega)
theorem steps_bit {l : List Nat} : ∀ (ds : Array Nat), (∀ c ∈ l, Bit c) → l.foldlM (PySem.NumText.step 2) (ds, true) = some (l.foldl (fun a c => a.push (c - 48)) ds, true) := by
  induction l with
  | nil => exact fun _ _ => rfl
  | cons c l ih =>
    intro ds h
    rw [List.foldlM_cons, step_bit (h c List.mem_cons_self)]
    exact ih _ fun d hd => h d (List.mem_cons_of_mem _ hd)
theorem digits_bit {l : List Nat} (h : ∀ c ∈ l, Bit c) (hne : l ≠ []) : digits? 2 l = some (l.foldl (fun a c => a.push (c - 48)) #[]) := by
  cases l with
  | nil => exact absurd rfl hne
  | cons c l =>
    unfold digits?
    rw [List.foldlM_cons, step_bit (h c List.mem_cons_self)]
    show (l.foldlM (PySem.NumText.step 2) ((#[] : Array Nat).push (c - 48), true)).bind _ = _
    rw [steps_bit _ fun d hd => h d (List.mem_cons_of_mem _ hd)]
    rfl
theorem push_bit {l : List Nat} : ∀ (ds : Array Nat), (l.foldl (fun a c => a.push (c - 48)) ds).foldl (fun a d => a * 2 + d) 0 = l.foldl (fun a c => a * 2 + (c - 48)) (ds.foldl (fun a d => a * 2 + d) 0) := by
  induction l with
  | nil => exact fun _ => rfl
  | cons c l ih =>
    intro ds
    rw [List.foldl_cons, ih, List.foldl_cons]
    congr 1
    simp
theorem based_bit : ∀ {l : List Nat}, (∀ c ∈ l, Bit c) → based 2 l = (2, false, l)
  | [], _ => rfl
  | [a], h => by
    rcases h a (by simp) with rfl | rfl <;> rfl
  | a :: c :: r, h => by
    rcases h a (by simp) with rfl | rfl <;> rcases h c (by simp) with rfl | rfl <;> rfl
theorem read_bit {l : List Nat} (h : ∀ c ∈ l, Bit c) (hne : l ≠ []) : (int_private% "readNumeral") 0 2 l = (int_private% "Numeral.value") ((binN l : Nat) : Int) := by
  have hx : ∀ c ∈ l, Hx.IsHex c := fun c hc => (h c hc).hex
  have hr : ∀ c ∈ l.reverse, Hx.IsHex c := fun c hc => hx c (List.mem_reverse.mp hc)
  refine (readNumeral_eq 0 2 l).trans ?_
  rw [Hx.dropB hx, Hx.signH hx]
  show judge 0 false (based 2 l).1 (based 2 l).2.1 (digits? (based 2 l).1 (((based 2 l).2.2.reverse.dropWhile blank).reverse)) = _
  rw [based_bit h]
  show judge 0 false 2 false (digits? 2 ((l.reverse.dropWhile blank).reverse)) = _
  rw [Hx.dropB hr, List.reverse_reverse, digits_bit h hne]
  show (int_private% "Numeral.value") (((l.foldl (fun a c => a.push (c - 48)) (#[] : Array Nat)).foldl (fun a d => a * 2 + d) 0 : Nat) : Int) = _
  rw [push_bit, show (#[] : Array Nat).foldl (fun a d => a * 2 + d) 0 = 0 by simp]
  rfl
set_option maxHeartbeats 4000000 in
theorem gives_bit {x : PySem.Str} {u t : Tok} (hl : x.length ≤ 640) (h : ∀ c ∈ x.cps.toList, Bit c) (hne : x.cps.toList ≠ []) : Gives (Builtin.«int.__new__» ⟨[.type "int", .str x u, .int 2 t], []⟩) (.int ((binN x.cps.toList : Nat) : Int)) :=
  .of_wp fun M A E s Q hQ => by
    obtain ⟨e1, e2⟩ := Hx.seen_hex fun c hc => (h c hc).hex
    have k1 : (numSeenOf x).length ≤ 640 := by rw [e2, Array.length_toList]; exact hl
    have k2 : (int_private% "readNumeral") 0 2 (numSeenOf x) = (int_private% "Numeral.value") ((binN x.cps.toList : Nat) : Int) := by rw [e2]; exact read_bit h hne
    have k3 : ((numSeenOf x).length == (numTextOf x).length) = true := by rw [e1, e2]; exact beq_self_eq_true _
    have hk := Hx.Hid.mk (And.intro k1 (And.intro k2 k3))
    obtain ⟨hp, g, d, tk, os⟩ := s
    have g1 := F.conv_sub_int
    have g2 := F.madeHere_int
    have g3 : typeOf (.str x u) = pure (.type "str") := rfl
    clear k1 k2 k3 e1 e2 hl hne h
    repeat (any_goals (first
      | assumption
      | ((with_reducible show wpAny _ _ ((int_private% "intFromText") _ _ _) _ _ _) <;> refine Hx.wp_textB hk.out.1 hk.out.2.1 hk.out.2.2 ?_)
      | wp_step))
    all_goals first | exact ⟨_, rfl, hQ⟩ | skip
theorem call_bit {P : Program} {w : World} {A : Around} {E : Value → Shared → Prop} {s : Shared} {Q : Value → Shared → Prop} {x : PySem.Str} {u t : Tok} (hl : x.length ≤ 640) (h : ∀ c ∈ x.cps.toList, Bit c) (hne : x.cps.toList ≠ [])
    (q : Q (.int ((binN x.cps.toList : Nat) : Int) s.toks) { s with toks := s.toks + 1 }) : wpAny (model P w) A (call (.type "int") [.str x u, .int 2 t]) Q E s :=
  callType_new F.called_int F.newNe_int (Hx.typeCall_int_2 _ _) (Hx.newCall_int_2 _ _) (fun o => F.initArgs_range_2 o _ _) F.entry_int_new (gives_bit hl h hne).meets (show (Made.int ((binN x.cps.toList : Nat) : Int)).post _ s from ⟨rfl, q⟩)
def rIntB : List V → Hp → VK → Prop := fun xs H Q => ∃ x : PySem.Str, xs = [.str x, .int 2] ∧ x.cps.toList ≠ [] ∧ x.length ≤ 640 ∧ (∀ c ∈ x.cps.toList, Bit c) ∧ Q (.int ((binN x.cps.toList : Nat) : Int)) H
theorem call_intB {X : Cx} : CallR X (.type "int") rIntB := by
  intro pins s σ H xs us Q I r h
  obtain ⟨x, rfl, hne, hl, hx, q⟩ := h
  obtain ⟨u, w', rfl, ⟨t1, rfl⟩, ⟨t2, rfl⟩⟩ := vals2 r
  exact call_bit hl hx hne ⟨.int ((binN x.cps.toList : Nat) : Int), H, I.tok _, ⟨_, rfl⟩, q⟩
section
variable {S : Sh} {fl : Bool} {ρ : List Sl} {o e a : Expr} {pos p p2 : Pos} {X : Str → Prop} {Q : Sl → List Sl → Prop}
theorem cd_intB {x : PySem.Str} (hne : x.cps.toList ≠ []) (hl : x.length ≤ 640) (h : ∀ c ∈ x.cps.toList, Bit c) : CD S (.type "int") [.im (.str x), .im (.int 2)] (.im (.int ((binN x.cps.toList : Nat) : Int))) :=
  cd_of2 (r := rIntB) (fun X _ => call_intB) fun C l os v w H k Q q => by
    have e2 := k.int
    have e1 := k.tail.str
    subst e1 e2
    exact ⟨x, rfl, hne, hl, h, q _ _ (k.tail.tail.flat (.int _))⟩
/-- o.find(a, e) -/
theorem ce_find3 {y : PySem.Str} (hy : y = "find") (h : CE S fl ρ o X fun s1 ρ1 => StK s1 fun x => CE S fl ρ1 a X fun s2 ρ2 => StK s2 fun z => CE S fl ρ2 e X fun s3 ρ3 => InK s3 fun i => Q (.im (.int (Txt.find3 x z i))) ρ3)
    (hse : ∀ X : Cx, starEach [a, e] X.env = (false, eval a X.env) :: starEach [e] X.env := by intro _; rfl) (hse2 : ∀ X : Cx, starEach [e] X.env = (false, eval e X.env) :: starEach [] X.env := by intro _; rfl)
    (hbase : ∀ X : Cx, attributeBase o "find" X.env (eval o X.env) = eval o X.env := by intro _; rfl) (hline : (p2.endLine == pos.line) = true := by rfl)
    (hfew : ∀ X : Cx, ((backTo pos (starEach [a, e] X.env)).all (fun x => !x.1) && (backToKw pos (keywordEach [] X.env)).all (fun x => x.1.isSome) && decide ([a, e].length + ([] : List Keyword).length + (if ([] : List Keyword).isEmpty then 0 else 1) < 30)) = true := by intro _; rfl)
    (hpl : ∀ X : Cx, (backTo pos (starEach [e] X.env)).any (·.1) = false := by intro _; rfl) :
    CE S fl ρ (.Call (.Attribute o y p2) [a, e] [] pos) X Q := by
  subst hy
  exact fun C τ vs σ H k l nv QQ qq xx =>
  ⟨tBM S.K "str" (fun x xs H Q => ∃ (a b : PySem.Str) (i : Int), x = .str a ∧ xs = [.str b, .int i] ∧ Q (.int (Txt.find3 a b i)) H) (wE S o) (tCons (wE S a) (tCons (wE S e) tNil)),
    fun X hX => by
      rw [← hX.K]
      exact pe_bm PySem.F.plainAttrs_str PySem.F.slot_str_find PySem.F.type_str_find mt_find3 (wE_pe hX) (pa_cons (wE_pe hX) (pa_cons (wE_pe hX) pa_nil (hse2 X)) (hse X)) (hbase X) (hfew X) hline (hse X) (hpl X), h C τ vs σ H k l nv _ (fun s1 ρ1 v1 H1 h1 k1 => by
      obtain ⟨x, rfl, h1⟩ := h1
      have q1 := k1.str
      subst q1
      refine ⟨rfl, h1 C τ vs σ H1 k1.tail l nv _ (fun s2 ρ2 v2 H2 h2 k2 => ?_) xx⟩
      obtain ⟨z, rfl, h2⟩ := h2
      have q2 := k2.str
      subst q2
      refine h2 C τ vs σ H2 k2.tail l nv _ (fun s3 ρ3 v3 H3 h3 k3 => ?_) xx
      obtain ⟨i, rfl, h3⟩ := h3
      have q3 := k3.int
      subst q3
      exact ⟨x, z, i, rfl, rfl, qq _ _ _ _ h3 (k3.tail.flat (.int _))⟩) xx⟩
end
end Kd

set_option Elab.async false
set_option linter.all false
set_option maxRecDepth 100000
/-! KeZ: classes of the program, told. -/
namespace Kd
open PySem L2
open Evl (Ex ex_l ex_t ex_rd fresh_back)
def clsB (K : PySem.W.Frag) (C : Addr) : Bool := PySem.W.plainGet K C Str.empty && PySem.W.hasDictIn K C && PySem.W.plainOver K C && (PySem.W.findIn K (.ref C) "__setattr__" == some (some (.builtin "object.__setattr__")))
def mkB (K : PySem.W.Frag) (C : Addr) : Bool := PySem.W.makesIn K C && PySem.W.keepIn K (.ref C)
def naB (K : PySem.W.Frag) (C : Addr) (f : Str) : Bool := PySem.W.findIn K (.ref C) f == some none
def fkB (K : PySem.W.Frag) (f : Addr) : Bool := PySem.W.isFn K (.ref f) && PySem.W.keepIn K (.ref f)
section
variable {M : Md} {h : Heap} {cls : Str} {C : Addr}
theorem clsA_of (X : M.K.In h) (G : h.Ns mainGlobals M.mg) (n : PySem.W.nsIn M.K mainGlobals cls = some (some (.ref C))) : clsA M cls = C := by
  unfold clsA
  rw [PySem.W.mg_of X G n]
theorem cls_mk (X : M.K.In h) (G : h.Ns mainGlobals M.mg) (n : PySem.W.nsIn M.K mainGlobals cls = some (some (.ref C))) (b : clsB M.K C = true) : ClsIn M cls := by
  have e := clsA_of X G n
  unfold clsB at b
  simp only [Bool.and_eq_true, beq_iff_eq] at b
  obtain ⟨⟨⟨b1, b2⟩, b3⟩, b4⟩ := b
  exact ⟨by rw [e]; exact PySem.W.mg_of X G n, by rw [e]; exact ⟨b1, b2, b3, b4⟩⟩
theorem mk_mk (X : M.K.In h) (G : h.Ns mainGlobals M.mg) (n : PySem.W.nsIn M.K mainGlobals cls = some (some (.ref C))) (b : mkB M.K C = true) : ∀ f, Meth M.K (clsA M cls) "__init__" f → Mk M.K (clsA M cls) f := fun f m => by
  have e := clsA_of X G n
  rw [e] at m ⊢
  unfold mkB at b
  simp only [Bool.and_eq_true] at b
  exact ⟨b.1, m.at_, m.fn, b.2⟩
theorem na_mk {f : Str} (X : M.K.In h) (G : h.Ns mainGlobals M.mg) (n : PySem.W.nsIn M.K mainGlobals cls = some (some (.ref C))) (b : naB M.K C f = true) : NoAttr M.K (clsA M cls) f := by
  rw [clsA_of X G n]
  unfold naB at b
  exact beq_iff_eq.mp b
theorem mth_mk {m qual : Str} {st : Stmt} {ps : List Str} {f : Addr} {oc : Value} {od an : Option Addr} {sl : Array (Option Value)} {kV dc pm cd ct : Value} (X : M.K.In h) (G : h.Ns mainGlobals M.mg) (n : PySem.W.nsIn M.K mainGlobals cls = some (some (.ref C)))
    (a : PySem.W.findIn M.K (.ref C) m = some (some (.ref f))) (l : M.K.lookup f = some ⟨oc, od, .func (PySem.W.fnOf m qual (defArgs st) (defBody st) (defScope st) .none kV dc pm an cd ct), sl⟩) (c : PySem.W.codeIn M.K cd qual = true) (k : fkB M.K f = true)
    (hb : ∀ (kV doc pm : Value) (an : Option Addr) (cdv ct : Value) (us : List Value), us.length = ps.length → bindArgs (PySem.W.fnOf m qual (defArgs st) (defBody st) (defScope st) .none kV doc pm an cdv ct) ⟨us, []⟩ = pure (ps.zip us)) : MthIn M cls m qual st ps := by
  unfold fkB at k
  simp only [Bool.and_eq_true] at k
  exact ⟨f, _, fun_mk l c k.2, by rw [clsA_of X G n]; exact ⟨a, k.1, k.2⟩, (fun_mk (st := st) l c k.2).binds hb⟩
end
end Kd

set_option Elab.async false
set_option linter.all false
set_option maxRecDepth 100000
set_option maxHeartbeats 4000000
/-! KfA: sorted(set(xs)), xs a list of texts. -/
namespace Kd
open PySem L2 PySem.Spec PyProof.Rows
open Evl (Ex ex_l ex_t ex_rd fresh_back)
def keyX (e : Int × Value) : Str := match e.2 with | .str k _ => k | _ => Str.empty
def GoodX (w : World) (e : Int × Value) : Prop := ∃ k tk, e.2 = Value.str k tk ∧ e.1 = hashStr w k
/-- a set of texts that can be walked -/
def SetTx (w : World) (h : Heap) (a : Addr) (S : Str → Bool) (n : Nat) : Prop :=
  ∃ o es ep t, h.get? a = some o ∧ o.ExactSet ∧ o.data = .set es ep t ∧ (∀ e ∈ es.toList, GoodX w e) ∧ (es.toList.map keyX).Nodup ∧ (∀ k, S k = true ↔ k ∈ es.toList.map keyX) ∧
    es.size < scanBound ∧ t.fits es.size = true ∧ es.size = n ∧ Ris t.place.toList ∧ (w.params.followText "set-order" = true ∨ t.led = true)
section
variable {P : Program} {w : World} {h h' : Heap} {a : Addr} {S : Str → Bool} {n : Nat}
theorem SetTx.at (R : SetTx w h a S n) (k : ∀ o, h.get? a = some o → h'.get? a = some o) : SetTx w h' a S n := by
  obtain ⟨o, es, ep, t, ho, r⟩ := R
  exact ⟨o, es, ep, t, k o ho, r⟩
theorem SetTx.congr {S' : Str → Bool} (R : SetTx w h a S n) (e : ∀ k, S' k = S k) : SetTx w h a S' n := by
  have q : S' = S := funext e
  rw [q]; exact R
theorem isX (k : Str) (u : Tok) : (PySem.strKind P w).is k (.str k u) = true := PySem.strKind_is P w k u
theorem goodX_elems {l : List (Int × Value)} (g : ∀ e ∈ l, GoodX w e) : ElemsOf (PySem.strKind P w) l := fun e he => by
  obtain ⟨k, tk, h1, h2⟩ := g e he
  exact ⟨⟨k, by rw [h1]; exact isX k tk, h2⟩, by rw [h1] <;> rfl⟩
theorem goodX_is {e : Int × Value} (g : GoodX w e) (k : Str) : (PySem.strKind P w).is k e.2 = true ↔ keyX e = k := by
  obtain ⟨k0, tk, h1, _⟩ := g
  unfold keyX
  rw [h1]
  show (PySem.strKind P w).is k (.str k0 tk) = true ↔ k0 = k
  constructor
  · intro z
    exact (PySem.strKind P w).inj (.str k0 tk) k0 k (isX k0 tk) z
  · rintro rfl
    exact isX _ tk
theorem goodX_mem {l : List (Int × Value)} (g : ∀ e ∈ l, GoodX w e) (k : Str) : k ∈ l.map keyX ↔ ∃ e ∈ l, (PySem.strKind P w).is k e.2 = true := by
  rw [List.mem_map]
  constructor
  · rintro ⟨e, he, q⟩
    exact ⟨e, he, (goodX_is (g e he) k).2 q⟩
  · rintro ⟨e, he, q⟩
    exact ⟨e, he, (goodX_is (g e he) k).1 q⟩
end
section
variable {P : Program} {w : World} {A : Around} {E : Value → Shared → Prop} {s : Shared} {a : Addr} {S : Str → Bool} {n : Nat}
theorem setX_add_tail {g : Bool → Sem Unit} (hg : ∀ (b : Bool) (s₁ : Shared) (Q' : Unit → Shared → Prop), Q' () s₁ → wpAny (model P w) A (g b) Q' E s₁)
    {o : Obj} {es : Array (Int × Value)} {ep : Nat} {t : SetTable} (ho : s.heap.get? a = some o) (hex : o.ExactSet) (hd : o.data = .set es ep t)
    {es1 : Array (Int × Value)} {t2 : SetTable} {S' : Str → Bool} (g1 : ∀ e ∈ es1.toList, GoodX w e) (nd1 : (es1.toList.map keyX).Nodup) (m1 : ∀ k, S' k = true ↔ k ∈ es1.toList.map keyX)
    (hb1 : es1.size < scanBound) (hf2 : t2.fits es1.size = true) (hr : Ris t2.place.toList) (hl : w.params.followText "set-order" = true ∨ t2.led = true) {wasDummy : Bool} {R : Option Bool → Shared → Prop}
    (hR : ∀ h', Heap.SameBut a s.heap h' → SetTx w h' a S' es1.size → R (some true) { s with heap := h' }) :
    wpAny (model P w) A (do
        storeSet a es1 t2
        if (!wasDummy && t2.tooFull) = true then do
            g (relayAll t2 es1 (SetTable.grown es1.size)).2.2
            storeSet a (relayAll t2 es1 (SetTable.grown es1.size)).1 (relayAll t2 es1 (SetTable.grown es1.size)).2.1
            pure (some true)
          else pure (some true)) R E s := by
  refine wpAny_bind (wpAny_storeSet_of ho hd ?_ (fits_of_scanBound hb1))
  have ho1 := store_at (es' := es1) (t' := t2) ho hd
  have sb1 := Heap.SameBut.update s.heap a (Obj.putSet es1 t2)
  split
  · have pm := relayAll_perm t2 es1 (SetTable.grown es1.size)
    have hf3 := relayAll_fits t2 es1 (SetTable.grown es1.size)
    have hr3 := relayAll_ris t2 es1 (SetTable.grown es1.size)
    have hl3 := relayAll_led t2 es1 (SetTable.grown es1.size)
    generalize relayAll t2 es1 (SetTable.grown es1.size) = Z at pm hf3 hr3 hl3 ⊢
    obtain ⟨es2, t3, gave⟩ := Z
    dsimp only at pm hf3 hr3 hl3 ⊢
    have hsz : es2.size = es1.size := by rw [← Array.length_toList, pm.length_eq, Array.length_toList]
    have hb2 : es2.size < scanBound := by rw [hsz]; exact hb1
    refine wpAny_bind (hg _ _ _ ?_)
    refine wpAny_bind (wpAny_storeSet_of ho1 rfl ?_ (fits_of_scanBound hb2))
    have ho2 := store_at (es' := es2) (t' := t3) ho1 rfl
    refine wpAny_pure (hR _ (sb1.trans (Heap.SameBut.update _ a _)) ?_)
    exact ⟨_, es2, _, t3, ho2, hex, rfl, fun e he => g1 e (pm.mem_iff.mp he), (pm.map keyX).nodup_iff.mpr nd1, fun k => (m1 k).trans (pm.map keyX).mem_iff.symm, hb2, hf3, hsz, hr3, hl.imp id fun z => by rw [hl3]; exact z⟩
  · exact wpAny_pure (hR _ sb1 ⟨_, es1, _, t2, ho1, hex, rfl, g1, nd1, m1, hb1, hf2, rfl, hr, hl⟩)
theorem setX_add_hashed {k : Str} {tk : Tok} {Q : Bool → Shared → Prop} (R : SetTx w s.heap a S n) (room : n + 1 < scanBound)
    (hQ : ∀ h', Heap.SameBut a s.heap h' → SetTx w h' a (fun j => S j || decide (j = k)) (if S k = true then n else n + 1) → Q (!S k) { s with heap := h' }) :
    wpAny (model P w) A (setAddHashed a (.str k tk) ((PySem.strKind P w).hash k)) Q E s := by
  obtain ⟨o, es, ep, t, ho, hex, hd, g, nd, hm, hb, hf, hn, hr, hl⟩ := R
  have hkey : (PySem.strKind P w).is k (.str k tk) = true := isX k tk
  have hsc : (Value.str k tk).scannable = true := rfl
  have hel : ElemsOf (PySem.strKind P w) es.toList := goodX_elems g
  unfold setAddHashed setAddHashedIn
  refine wpAny_holding (wpAny_bind (wpAny_setState_of ho hd hf ?_))
  dsimp only
  rw [byScan_of hsc hb hel]
  simp only [↓reduceIte]
  unfold setAddByScan
  refine wpAny_bind ?_
  refine wpAny_bind (wpAny_rule ?_)
  refine wpAny_bind (wpAny_setScan_of hkey ho hd hf hel ?_)
  cases hfi : List.findIdx? (fun e => (PySem.strKind P w).is k e.2) es.toList with
  | some j =>
    dsimp only
    obtain ⟨hj, pj, _⟩ := List.findIdx?_eq_some_iff_getElem.mp hfi
    have hSk : S k = true := (hm k).2 ((goodX_mem (P := P) (w := w) g k).2 ⟨es.toList[j], List.getElem_mem hj, pj⟩)
    refine wpAny_pure (wpAny_pure ?_)
    have q := hQ s.heap (Heap.SameBut.refl a s.heap) ⟨o, es, ep, t, ho, hex, hd, g, nd, fun i => by
      rw [Bool.or_eq_true, decide_eq_true_eq, ← hm i]
      exact ⟨fun z => z.elim id (fun e => e ▸ hSk), .inl⟩, hb, hf, by rw [if_pos hSk]; exact hn, hr, hl⟩
    rw [hSk] at q
    exact q
  | none =>
    dsimp only
    have hnk : k ∉ es.toList.map keyX := fun z => by
      obtain ⟨e, he, q⟩ := (goodX_mem (P := P) (w := w) g k).1 z
      have c := List.findIdx?_eq_none_iff.mp hfi e he
      rw [q] at c
      cases c
    have hSk : S k = false := by
      cases q : S k with
      | false => rfl
      | true => exact absurd ((hm k).1 q) hnk
    have hgw : ∀ (b : Bool) {s₁ : Shared} {Q' : Unit → Shared → Prop}, Q' () s₁ → wpAny (model P w) A (match b with | true => rule "set.scan.the-table-gave-way" | false => pure ()) Q' E s₁ :=
      fun b s₁ Q' q => by cases b <;> first | exact wpAny_pure q | exact wpAny_rule q
    have pm := layNew_perm t es ((PySem.strKind P w).hash k) (.str k tk)
    have hf1 := layNew_fits t es ((PySem.strKind P w).hash k) (.str k tk)
    have hr1 := layNew_ris t es ((PySem.strKind P w).hash k) (.str k tk) hr
    have hl1 := layNew_led t es ((PySem.strKind P w).hash k) (.str k tk)
    generalize layNew t es ((PySem.strKind P w).hash k) (.str k tk) = Z at pm hf1 hr1 hl1 ⊢
    obtain ⟨es1, t1, wasDummy, gave⟩ := Z
    dsimp only at pm hf1 hr1 hl1 ⊢
    rw [Array.toList_push] at pm
    have pc : es1.toList.Perm (((PySem.strKind P w).hash k, Value.str k tk) :: es.toList) := pm.trans (List.perm_append_singleton _ _)
    have pk : (es1.toList.map keyX).Perm (k :: es.toList.map keyX) := pc.map keyX
    have g1 : ∀ e ∈ es1.toList, GoodX w e := fun e he => by
      rcases List.mem_cons.mp (pc.mem_iff.mp he) with z | z
      · rw [z]; exact ⟨k, tk, rfl, rfl⟩
      · exact g e z
    have nd1 : (es1.toList.map keyX).Nodup := pk.nodup_iff.mpr (List.nodup_cons.mpr ⟨hnk, nd⟩)
    have m1 : ∀ i, (S i || decide (i = k)) = true ↔ i ∈ es1.toList.map keyX := fun i => by
      rw [Bool.or_eq_true, decide_eq_true_eq, hm i, pk.mem_iff, List.mem_cons]
      exact Or.comm
    have hsz : es1.size = n + 1 := by rw [← Array.length_toList, pc.length_eq, List.length_cons, Array.length_toList, hn]
    have hb1 : es1.size < scanBound := by rw [hsz]; exact room
    have hled : w.params.followText "set-order" = true ∨ t1.led = true := hl.imp id fun z => by rw [hl1]; exact z
    have fin : ∀ h', Heap.SameBut a s.heap h' → SetTx w h' a (fun j => S j || decide (j = k)) es1.size → Q true { s with heap := h' } := fun h' sb r => by
      have q := hQ h' sb
      rw [hSk] at q
      rw [hsz] at r
      exact q r
    refine wpAny_bind (hgw _ ?_)
    split
    · refine wpAny_bind ?_
      rw [hashByValue_scannable 8 hsc]
      refine wpAny_pure ?_
      refine setX_add_tail ?_ ho hex hd g1 nd1 m1 hb1 ?_ ?_ ?_ ?_
      · intro b s₁ Q' q; cases b <;> first | exact wpAny_pure q | exact wpAny_rule q
      · first | (split <;> first | exact hf1 | exact SetTable.fits_plain_off hf1) | exact hf1
      · first | (split <;> exact hr1) | exact hr1
      · first | (split <;> exact hled) | exact hled
      · intro h' sb r; dsimp only; exact wpAny_pure (fin h' sb r)
    · refine wpAny_bind (wpAny_pure ?_)
      simp only [↓reduceIte]
      refine setX_add_tail ?_ ho hex hd g1 nd1 m1 hb1 hf1 hr1 hled ?_
      · intro b s₁ Q' q; cases b <;> first | exact wpAny_pure q | exact wpAny_rule q
      · intro h' sb r; dsimp only; exact wpAny_pure (fin h' sb r)
end
theorem setX_new_at {w : World} {h : Heap} {a : Addr} {ns : List Str} (ho : h.get? a = some { cls := .type "set", dict := none, data := .set #[] 0 (.fresh 0 0 (!w.params.followText "set-order")) }) : SetTx w h a (fun j => decide (j ∈ ns.take 0)) 0 :=
  ⟨_, #[], 0, _, ho, ⟨rfl, rfl, rfl⟩, rfl, (fun e he => by simp at he), (by simp), (fun k => by simp), (by decide), (by rfl), rfl, List.Pairwise.nil, by
    show _ ∨ (!w.params.followText "set-order") = true
    cases w.params.followText "set-order"
    · exact .inr rfl
    · exact .inl rfl⟩
section
variable {P : Program} {w : World} {A : Around} {E : Value → Shared → Prop} {s : Shared}
theorem setX_update {I : Addr} {fp wr : List Addr} {G : Array GenState → Array GenState → Prop} {n : Nat} {Pv : Nat → Value → Prop} {St : Nat → Shared → Prop} {R : Result → Shared → Prop}
    (W : WalksS P w A.in1 I fp wr G n Pv St) (S : Addr) (hSf : S ∉ fp) (ns : List Str) (hn : n = ns.length) (hb : ns.length + 1 < scanBound) (hval : ∀ i v, Pv i v → ∃ k t, ns[i]? = some k ∧ v = .str k t) :
    ∀ (k i : Nat) (s : Shared), n - i = k → i ≤ n → St i s → (∃ c, c ≤ i ∧ SetTx w s.heap S (fun j => decide (j ∈ ns.take i)) c) →
      (∀ s' c, Moved (S :: wr) G s s' → c ≤ n → SetTx w s'.heap S (fun j => decide (j ∈ ns)) c → R (.ok (.ret .none)) s') →
      codeAny (model P w) A (.builtin "set.update.loop" ⟨[.ref S, .ref I], []⟩) R s := by
  have hSw : S ∉ wr := fun h => hSf (W.sub _ h)
  have hsub : ∀ b ∈ wr, b ∈ S :: wr := fun b hb => List.mem_cons_of_mem _ hb
  intro k
  induction k with
  | zero =>
    intro i s hk' hi hst ⟨c, hc, hS⟩ hR
    have hin : i = n := by omega
    subst hin
    refine codeAny_builtin F.entry_set_update_loop ?_
    rw [Around.under_plainId F.plain_set_update_loop _]
    show wpAny _ A.in1 (pyNext (.ref I) >>= _) _ _ s
    refine wpAny_bind (W.done s _ _ hst fun s' hm => ?_)
    show wpAny _ A.in1 (ret Value.none) _ _ s'
    have e : ns.take i = ns := List.take_of_length_le (by omega)
    rw [e] at hS
    exact wpAny_pure (hR s' c (hm.mono hsub) hc (hS.at fun o e => hm.heap S o hSw e))
  | succ k ih =>
    intro i s hk' hi hst ⟨c, hc, hS⟩ hR
    have hlt : i < n := by omega
    refine codeAny_builtin F.entry_set_update_loop ?_
    rw [Around.under_plainId F.plain_set_update_loop _]
    show wpAny _ A.in1 (pyNext (.ref I) >>= _) _ _ s
    refine wpAny_bind (W.item i s _ _ hlt hst fun v s' hP hst' hm => ?_)
    obtain ⟨z, t, hz, rfl⟩ := hval i v hP
    have hS' : SetTx w s'.heap S (fun j => decide (j ∈ ns.take i)) c := hS.at fun o e => hm.heap S o hSw e
    show wpAny _ A.in1 (holding [Value.str z t] (setAdd S (.str z t)) >>= _) _ _ s'
    refine wpAny_bind (wpAny_holding ?_)
    unfold setAdd
    refine wpAny_holding ?_
    refine wpAny_bind ((PySem.strKind P w).pyHash (k := z) (isX _ _) ?_)
    refine setX_add_hashed (s := { s' with toks := s'.toks + 1 }) hS' (by omega) fun h' hsb hS2 => ?_
    have hS3 : SetTx w h' S (fun j => decide (j ∈ ns.take (i + 1))) (if decide (z ∈ ns.take i) = true then c else c + 1) := hS2.congr fun j => by
      rw [List.take_add_one, hz]
      simp [List.mem_append]
    have hc3 : (if decide (z ∈ ns.take i) = true then c else c + 1) ≤ i + 1 := by
      split <;> omega
    refine wpAny_pure ⟨plainId_quiet F.plain_set_update_loop _, ih (i + 1) _ (by omega) hlt (W.frame _ s' _ _ hst' (Nat.le_succ _) fun b hb o e => ?_) ⟨_, hc3, hS3⟩ fun s'' c2 hm'' hc'' hS'' => ?_⟩
    · rw [hsb.2 b (fun h : b = S => hSf (by rw [← h]; exact hb))]; exact e
    · refine hR s'' c2 (Moved.trans W.gtrans ((hm.mono hsub).then_heap (Nat.le_succ _) fun b o hb e => ?_) hm'') hc'' hS''
      rw [hsb.2 b (fun h : b = S => hb (by rw [h]; exact List.mem_cons_self))]; exact e
end
section
variable {P : Program} {w : World} {A : Around} {E : Value → Shared → Prop} {s : Shared}
/-- set(xs), what is behind it -/
theorem setX_of_list {l : Addr} {its : Array Value} (ns : List Str) {Q : Value → Shared → Prop} (a0 : A.handled = none) (hl : s.heap.IsList l its) (len : its.size = ns.length) (hi : ∀ (i : Nat) (v : Value), its[i]? = some v → ∃ k t, ns[i]? = some k ∧ v = .str k t) (few : ns.length + 1 < scanBound)
    (fin : ∀ (h' : Heap) (tk c : Nat), SetTx w h' s.heap.objs.size (fun j => decide (j ∈ ns)) c → c ≤ ns.length → (∀ b o, s.heap.get? b = some o → h'.get? b = some o) → Q (.ref s.heap.objs.size) { s with heap := h', toks := tk }) :
    wpAny (model P w) A (call (.type "set") [.ref l]) Q E s := by
  obtain ⟨c0, t0, y1⟩ := F.called_set.mro; have y2 := F.called_set.made; have y3 := F.called_set.sub
  refine wpAny_call (codeAny_of_tree ?_); show wpAny _ _ (callAny (.type "set") _) _ _ _
  refine wpAny_pure ⟨Code.quiet_builtin _ (by decide +kernel), codeAny_builtin F.entry_type_call ?_⟩; rw [Around.under_plain (weight_type_call_type "set" [.ref l] []) rfl]
  have y4 := F.called_set.notType; have y5 := F.called_set.canCreate; have y6 := F.typeCall_set_1 (.ref l)
  (repeat any_goals first | assumption | wp_step)
  refine codeAny_mono (code_set_led1 (.ref l) (E := E) (Q₁ := fun ob u => ob = .ref s.heap.objs.size ∧ u = { s with heap := s.heap.push (emptyS w) }) ⟨rfl, rfl⟩) fun r u hr => ?_
  match r, hr with
  | .error e, hr => exact hr
  | .ok (.ret ob), hr =>
    obtain ⟨rfl, rfl⟩ := hr
    have g0 : (s.heap.push (emptyS w)).get? s.heap.objs.size = some (emptyS w) := Heap.get?_push_size _ rfl
    have ty0 : Shared.TypeIs { s with heap := s.heap.push (emptyS w) } (.ref s.heap.objs.size) "set" := ⟨_, g0, rfl⟩
    have y7 := F.called_set.init.lookup; have y8 := F.called_set.init.bind (.ref s.heap.objs.size)
    (repeat any_goals first | assumption | wp_step)
    refine codeAny_mono (codeAny_call_builtin (R := wants (fun r u => r = .none ∧ ∃ h' tk c, u = { s with heap := h', toks := tk } ∧ SetTx w h' s.heap.objs.size (fun j => decide (j ∈ ns)) c ∧ c ≤ ns.length ∧ (∀ b o, s.heap.get? b = some o → h'.get? b = some o)) E) F.called_set.init.plain F.entry_set_init (check_set_init_1 ty0 ?_)) fun r2 u2 hr2 => ?_
    · obtain ⟨⟨k1, k2, k3, k4⟩, ho, hk, n0, hd⟩ := hl
      simp only at hk hd
      subst hk; subst hd
      have ho1 : (s.heap.push (emptyS w)).get? l = some { cls := .type "list", dict := k2, data := .seq its n0, slots := k4 } := Heap.get?_push_of_some _ ho
      have z1 := F.sub_list_set; have z2 := F.sub_list_frozenset
      have z3 : (Value.type "list" == Value.type "dict") = false := by decide
      have il : (s.heap.push (emptyS w)).IsList l its := ⟨_, ho1, rfl, n0, rfl⟩
      unfold Builtin.«set.__init__» noKeywords Builtin.Frozenset.updateFrom; generalize hPI : pyIter = PI
      wp_walk
      subst hPI
      refine wpAny_pyIter_list il (wpAny_bind (wpAny_runValue ?_))
      have lt : l < s.heap.objs.size := Heap.lt_size ho
      have h3 : A.in1.in1.in1.handled = none := by simp [a0]
      have ne1 : l ≠ (s.heap.push (emptyS w)).objs.size := by rw [Heap.size_push]; exact Nat.ne_of_lt (Nat.lt_succ_of_lt lt)
      have nf : s.heap.objs.size ∉ [(s.heap.push (emptyS w)).objs.size, l] := by
        rw [Heap.size_push]; simp only [List.mem_cons, List.not_mem_nil, or_false, not_or]; exact ⟨Nat.ne_of_lt (Nat.lt_succ_self _), Nat.ne_of_gt lt⟩
      refine setX_update ((Walks.list h3 _ l ne1 its).toS) s.heap.objs.size nf ns len few hi (its.size - 0) 0 _ (by omega) (Nat.zero_le _) ⟨⟨_, Heap.get?_push_size _ rfl, rfl, rfl⟩, (il.push _)⟩ ⟨0, Nat.le_refl 0, setX_new_at (Heap.get?_push_of_some _ g0)⟩ fun u3 c3 mv hc3 hS3 => ?_
      obtain ⟨h', g2, d2, tk2, os2⟩ := u3
      obtain ⟨rfl, rfl, rfl⟩ : g2 = s.gens ∧ d2 = s.drawn ∧ os2 = s.os := ⟨mv.gens, mv.drawn, mv.os⟩
      show wpAny _ _ _ _ _ _
      refine wpAny_pure ?_
      show wpAny _ _ (ret Value.none) _ _ _
      rw [len] at hc3
      refine wpAny_pure ⟨rfl, h', tk2, c3, rfl, hS3, hc3, fun b o e => ?_⟩
      have bl : b < s.heap.objs.size := Heap.lt_size e
      refine mv.heap b o ?_ (Heap.get?_push_of_some _ (Heap.get?_push_of_some _ e))
      simp only [List.mem_cons, List.not_mem_nil, or_false, not_or]
      rw [Heap.size_push]
      exact ⟨Nat.ne_of_lt bl, Nat.ne_of_lt (Nat.lt_succ_of_lt bl)⟩
    · match r2, hr2 with
      | .error e, hr2 => exact hr2
      | .ok (.ret r), hr2 =>
        obtain ⟨rfl, h', tk, c', rfl, q1, q2, q3⟩ := hr2
        (repeat any_goals first | assumption | wp_step)
        exact fin _ _ _ q1 q2 q3
  | .ok (.next), hr => exact hr.elim
  | .ok (.brk), hr => exact hr.elim
  | .ok (.cont), hr => exact hr.elim
def txOf : Value → Str
  | .str k _ => k
  | _ => Str.empty
theorem each_tx : ∀ (l : List Value), (∀ v ∈ l, ∃ k tk, v = Value.str k tk) → PySem.W.EachIs (fun v (b : Str) => ∃ t, v = Value.str b t) l (l.map txOf)
  | [], _ => .nil
  | v :: l, h => by
    obtain ⟨k, tk, rfl⟩ := h v List.mem_cons_self
    exact .cons ⟨tk, rfl⟩ (each_tx l fun u hu => h u (List.mem_cons_of_mem _ hu))
theorem vals_tx : ∀ {us : List Value} {ks : List Str}, PySem.W.EachIs (fun v (b : Str) => ∃ t, v = Value.str b t) us ks → Vals (ks.map V.str) us
  | _, _, .nil => .nil
  | _, _, .cons r t => .cons r (vals_tx t)
/-- the texts in order -/
def srtX (ks : List Str) : List Str := ks.mergeSort fun a b => decide (a.cps.toList ≤ b.cps.toList)
theorem sortedX_set {a : Addr} {S : Str → Bool} {n : Nat} {Q : Value → Shared → Prop} (R : SetTx w s.heap a S n) (hh : A.handled = none) (h64 : n < 64) (hu : A.units + 64 < cLine)
    (hQ : ∀ s' p (out : List Value) (c : Nat) (ks : List Str), (∀ b o, s.heap.get? b = some o → s'.heap.get? b = some o) → s'.gens = s.gens → s'.os = s.os → s.heap.objs.size ≤ p →
      s'.heap.get? p = some (seqObj "list" out.toArray c) → Vals (ks.map V.str) out → ks.Pairwise (fun a b => a.cps.toList ≤ b.cps.toList) → ks.Nodup → (∀ k, k ∈ ks ↔ S k = true) → ks.length = n → Q (.ref p) s') :
    wpAny (model P w) A (call (.builtin "sorted") [.ref a]) Q E s := by
  obtain ⟨o, es, ep, t, ho, hex, hd, g, nd, hm, hb, hf, hn, hr, hl⟩ := R
  refine Calls.call_function_entry kind_sorted plain_sorted entry_sorted (args_sorted1 _) ?_
  unfold Builtin.«sorted»
  refine wpAny_bind (m := checkCount "sorted" 1 1 _) (wpAny_pure ?_)
  refine wpAny_bind (collect_set (A := A.in1) hh ⟨o, ho, hex.1, hd⟩ hf hb hr hl fun s1 vs k1 hz g1 o1 pm => ?_)
  have hvl : vs.length = n := by rw [pm.length_eq, List.length_map, Array.length_toList]; exact hn
  have hst : ∀ v ∈ vs, ∃ k tk, v = Value.str k tk := fun v hv => by
    obtain ⟨e, he, q⟩ := List.mem_map.mp (pm.mem_iff.mp hv)
    obtain ⟨k, tk, h1, _⟩ := g e he
    exact ⟨k, tk, by rw [← q]; exact h1⟩
  have hE := each_tx vs hst
  have pk : (vs.map txOf).Perm (es.toList.map keyX) := by
    have q := pm.map txOf
    rw [List.map_map] at q
    have e : es.toList.map (txOf ∘ fun x => x.2) = es.toList.map keyX := List.map_congr_left fun x _ => by
      show txOf x.2 = keyX x
      unfold txOf keyX
      cases x.2 <;> rfl
    rw [e] at q
    exact q
  refine wpAny_bind (wpAny_newList ?_ (by rw [hvl, sizeLine_eq]; omega))
  have hoL : (s1.heap.push (seqObj "list" vs.toArray 0)).get? s1.heap.objs.size = some (seqObj "list" vs.toArray 0) := Heap.get?_push_size _ rfl
  refine wpAny_bind (wpAny_holding (PySem.W.list_sort_data (enc := PyData.str) (bs := vs.map txOf) hoL hE ?_ (PySem.W.AllAlike.of fun _ _ => rfl) (PySem.W.Sortable.others fun _ => ⟨fun z => (nomatch z), fun _ z => (nomatch z)⟩) (by rw [List.length_map, hvl, sizeLine_eq]; omega) (fun b _ => ?_) fun out hol hO => ?_))
  · exact hE.mono fun v b ⟨t, e⟩ => ⟨[], by rw [e]; exact .str b t, fun z => nomatch z⟩
  · show A.in1.units + 1 + PyData.depth (.str b) < cLine
    simp only [PyData.depth]
    have : A.in1.units ≤ A.units + 1 := by first | exact Nat.le_refl _ | exact Nat.le_succ _ | simp
    omega
  · obtain ⟨c, hc⟩ := sortedHeap_at (vs := vs) (out := out.toArray) hoL
    rw [PySem.W.dataLe_str (fun b => b)] at hO
    have hp : ((vs.map txOf).mergeSort fun a b => decide (a.cps.toList ≤ b.cps.toList)).Perm (vs.map txOf) := List.mergeSort_perm _ _
    have pn := hp.trans pk
    refine wpAny_pure ⟨_, rfl, hQ _ s1.heap.objs.size out c _ (fun b u e => ?_) g1 o1 hz hc (vals_tx hO) ?_ (pn.nodup_iff.mpr nd) (fun k => by rw [pn.mem_iff, ← hm k]) ?_⟩
    · have q := k1 b u e
      have hlt := Heap.lt_size q
      show (sortedHeap (s1.heap.push (seqObj "list" vs.toArray 0)) s1.heap.objs.size vs out.toArray).get? b = some u
      rw [sortedHeap_old (Nat.ne_of_lt hlt) (by rw [size_push']; exact Nat.lt_succ_of_lt hlt)]
      exact Heap.get?_push_of_some _ q
    · have := List.pairwise_mergeSort (le := fun a b : Str => decide (a.cps.toList ≤ b.cps.toList)) (fun a b c h1 h2 => decide_eq_true (List.le_trans (of_decide_eq_true h1) (of_decide_eq_true h2))) (fun a b => by
        rw [Bool.or_eq_true, decide_eq_true_iff, decide_eq_true_iff]
        exact List.le_total _ _) (vs.map txOf)
      exact this.imp fun h => of_decide_eq_true h
    · rw [pn.length_eq, List.length_map, Array.length_toList]; exact hn
end
def SetTxO (w : World) (a : Addr) (S : Str → Bool) (n : Nat) : HO := .ext fun h => SetTx w h a S n
theorem setTxO_new {w : World} {P : Program} {H : Hp} {h : Heap} {a : Addr} {S : Str → Bool} {n : Nat} (R : SetTx w h a S n) : ObjOk P w H h a (SetTxO w a S n) := by
  have ⟨o, _, _, _, ho, _⟩ := R
  exact ⟨R, ⟨o, ho⟩, fun h1 h2 p k => SetTx.at p k⟩
/-- set(xs) as a rule -/
def rSetLX (K : PySem.W.Frag) (w : World) : List V → Hp → VK → Prop := fun xs H Q => ∃ (a : Addr) (ns : List Str), xs = [.ref a] ∧ SqL K H a (ns.map V.str) ∧ ns.length < 60 ∧ ∀ p c, H p = none → c ≤ ns.length → Q (.ref p) (upd H p (SetTxO w p (fun j => decide (j ∈ ns)) c))
theorem vals_str : ∀ {ns : List Str} {us : List Value}, Vals (ns.map V.str) us → us.length = ns.length ∧ ∀ (i : Nat) (v : Value), us[i]? = some v → ∃ k t, ns[i]? = some k ∧ v = .str k t
  | [], _, .nil => ⟨rfl, fun i v h => by simp at h⟩
  | n :: ns, _, .cons r t => by
    obtain ⟨k, rfl⟩ := r
    obtain ⟨h1, h2⟩ := vals_str t
    refine ⟨by simp [h1], fun i v h => ?_⟩
    cases i with
    | zero =>
      have e := Option.some.inj h
      exact ⟨n, k, rfl, e.symm⟩
    | succ i => exact h2 i v h
theorem call_setLX {X : Cx} (hc : X.calm = true) : CallR X (.type "set") (rSetLX X.K X.w) := by
  intro pins s σ H xs us Q I r h
  obtain ⟨a, ns, rfl, hs, few, q⟩ := h
  obtain ⟨its, rv, hl, _⟩ := I.list hs
  rw [Vals.ref1 r]
  obtain ⟨v1, v2⟩ := vals_str (us := its) (by simpa using rv)
  refine setX_of_list ns (I.ok.hd hc) hl.isList (by simpa using v1) (fun i v e => v2 i v (by simpa using e)) (by unfold scanBound; omega) fun h' tk c hS hcl keep => ?_
  exact ⟨.ref _, _, I.laid (t' := tk) keep (Nat.le_refl _) (setTxO_new hS), rfl, q _ c (I.hok.fresh (Nat.le_refl _)) hcl⟩
def rSortedX (w : World) : List V → Hp → VK → Prop := fun vs H Q => ∃ (a : Addr) (S : Str → Bool) (n : Nat), vs = [V.ref a] ∧ H a = some (SetTxO w a S n) ∧ n < 64 ∧
  ∀ (ks : List Str) (p : Addr), ks.Pairwise (fun a b => a.cps.toList ≤ b.cps.toList) → ks.Nodup → (∀ k : Str, k ∈ ks ↔ S k = true) → ks.length = n → H p = none → Q (.ref p) (upd H p (.lst (ks.map V.str)))
theorem cr_sortedX {X : Cx} (hc : X.calm = true) (hu : X.A.units + 64 < cLine) : CallR X (.builtin "sorted") (rSortedX X.w) := by
  intro pins s σ H vs us Q I r h
  obtain ⟨a, S, n, rfl, ha, h64, q⟩ := h
  have R : SetTx X.w s.heap a S n := (I.hok a _ ha).1
  rw [Vals.ref1 r]
  refine sortedX_set R (I.ok.hd hc) h64 hu fun s' p out c ks k g o hp hg hi hs hnd hm hl => ?_
  have hlen : (ks.map V.str).length ≤ sizeLine := by rw [List.length_map, hl, sizeLine_eq]; omega
  have hn : H p = none := I.hok.fresh hp
  have J : Inv X pins σ (upd H p (.lst (ks.map V.str))) { s with heap := s'.heap, gens := s'.gens, drawn := s'.drawn, toks := s'.toks } :=
    I.call (ch := []) (Un.laid k hp hn) (I.hok.laid k hp ⟨hlen, out, c, hi, hg⟩) (by rw [g]; exact I.bare) (fun _ z => nomatch z)
  have e : s' = { s with heap := s'.heap, gens := s'.gens, drawn := s'.drawn, toks := s'.toks } := by
    cases s'
    cases s
    cases o
    rfl
  rw [e]
  exact ⟨.ref p, _, J, rfl, q ks p hs hnd hm hl hn⟩
theorem dta_strs {K : PySem.W.Frag} {B : Hp} : ∀ l : List Str, DtA K B (l.map V.str) (l.map PyData.str)
  | [] => .nil
  | _ :: l => .cons (.str _) (dta_strs l)
section
variable {S : Sh} {fl : Bool} {ρ : List Sl} {e : Expr} {pos p pos2 p2 : Pos} {X : Str → Prop} {Q : Sl → List Sl → Prop}
/-- sorted(set(e)), e a list of texts -/
theorem ce_srtSetX {x y : Str} (hx : x = "sorted") (hy : y = "set") (hm : S.mg "sorted" = none) (hm2 : S.mg "set" = none)
    (h : CE S fl ρ e X fun r ρ1 => ∃ ns : List Str, (r = .im (.list (ns.map .str)) ∨ r = .al (ns.map .str) ∨ r = .ow (ns.map .str)) ∧ ns.length < 60 ∧ ∀ ms : List Str, ms.Pairwise (fun a b => a.cps.toList ≤ b.cps.toList) → ms.Nodup → (∀ k, k ∈ ms ↔ k ∈ ns) → ms.length ≤ ns.length → Q (.ow (ms.map .str)) ρ1)
    (hg : S.sc.names.lookup ("sorted" : Str) = some .globalImplicit := by rfl) (hg2 : S.sc.names.lookup ("set" : Str) = some .globalImplicit := by rfl)
    (he : ∀ X : Cx, starEach [e] X.env = (false, eval e X.env) :: starEach [] X.env := by intro _; rfl)
    (he2 : ∀ X : Cx, starEach [.Call (.Name y p2) [e] [] pos2] X.env = (false, eval (.Call (.Name y p2) [e] [] pos2) X.env) :: starEach [] X.env := by intro _; rfl) :
    CE S fl ρ (.Call (.Name x p) [.Call (.Name y p2) [e] [] pos2] [] pos) X Q := fun C τ vs σ H k l nv QQ qq xx => by
  subst hx hy
  refine ⟨tCB (rSortedX S.w) (tCons (tCB (rSetLX S.K S.w) (tCons (wE S e) tNil)) tNil), fun Y hY => ?_, ?_⟩
  · rw [← hY.w, ← hY.K]
    exact pe_callB (cr_sortedX hY.calm hY.room.units) (by show Y.env.scope.names.lookup _ = _; rw [hY.sc]; exact hg) (by rw [hY.mg]; exact hm) (by decide +kernel) (pa_cons (pe_callTy (call_setLX hY.calm) (by show Y.env.scope.names.lookup _ = _; rw [hY.sc]; exact hg2) (by rw [hY.mg]; exact hm2) (by decide +kernel) (pa_cons (wE_pe hY) pa_nil (he Y)) (by decide) (by decide) (he Y) rfl) pa_nil (he2 Y)) (by decide) (by decide) (he2 Y) rfl
  · refine h C τ vs σ H k l nv _ (fun r ρ1 v H1 z k1 => ?_) xx
    obtain ⟨ns, hr, few, fin⟩ := z
    obtain ⟨B, G, fp, a, ws, k2, rfl, hs, hd⟩ := items_of k1 hr
    have ew := hd.strs
    subst ew
    refine ⟨a, ns, rfl, hs, few, fun b c hb hc => ?_⟩
    refine ⟨b, _, c, rfl, upd_same, by omega, fun ms d hms hnd hmem hlen hd0 => ?_⟩
    refine qq _ _ _ _ (fin ms hms hnd (fun k => by rw [hmem]; simp) (by omega)) ?_
    have k3 := k2.grow (Ex.new (o := SetTxO S.w b (fun j => decide (j ∈ ns)) c) hb)
    exact k3.putOwn hd0 (dta_strs ms)
end
end Kd

set_option Elab.async false
set_option linter.all false
set_option maxRecDepth 100000
/-! KfB: enumerate(zip(t, u)) of two tuples. -/
namespace Kd
open PySem PySem.Spec PyProof.Rows L2 RZ
open Evl (Ex ex_l ex_t ex_rd fresh_back)
/-- a zip, whatever it knows of the tuple that it gave out last -/
abbrev zpO (m : Value) (f : Bool) (TI TO : Addr) : Obj := { cls := .type "zip", dict := Option.none, data := .fields #[m, .bool f, .bool false, .ref TI, .ref TO], slots := #[] }
def IsZp (h : Heap) (z TI TO : Addr) : Prop := ∃ (m : Value) (f : Bool), h.get? z = some (zpO m f TI TO) ∧ (m = .none ∨ ∃ T : Nat, m = rawInt T)
section
variable {prog : Program} {w : World} {A : Around} {E : Value → Shared → Prop} {s : Shared}
theorem zp_alive {a : Addr} {Q : Option Obj → Shared → Prop} (h : Q (s.heap.get? a) s) : wpAny (model prog w) A (loadIfAlive a) Q E s := fun _ _ _ => h
/-- is the tuple of its own free: both answers -/
theorem zp_free {z TI TO : Addr} {m : Value} {f : Bool} {Q : Bool → Shared → Prop} (hz : s.heap.get? z = some (zpO m f TI TO)) (hm : m = .none ∨ ∃ T : Nat, m = rawInt T) (h1 : Q true s)
    (h2 : ∀ h', h'.get? z = some (zpO m true TI TO) → Heap.SameBut z s.heap h' → Q false { s with heap := h' }) : wpAny (model prog w) A (Builtin.SmallTypes.ownedTupleIsFree (.ref z)) Q E s := by
  unfold Builtin.SmallTypes.ownedTupleIsFree
  refine wpAny_bind (wpAny_field hz rfl (x := m) rfl ?_)
  rcases hm with rfl | ⟨T, rfl⟩
  · exact wpAny_pure h1
  · show wpAny _ _ (loadIfAlive (Int.toNat (T : Int)) >>= _) _ _ _
    refine wpAny_bind (zp_alive ?_)
    cases hT : s.heap.get? (Int.toNat (T : Int)) with
    | none =>
      simp only [Option.isNone_none, if_true]
      exact wpAny_pure h1
    | some oT =>
      simp only [Option.isNone_some, Bool.false_eq_true, if_false]
      refine wpAny_bind (wpAny_field hz rfl (x := .bool f) rfl ?_)
      cases f with
      | true =>
        rw [if_neg (show ¬ ((Value.bool true != Value.bool true) = true) from Bool.false_ne_true)]
        exact wpAny_pure (h2 s.heap hz (Heap.SameBut.refl _ _))
      | false =>
        rw [if_pos (show (Value.bool false != Value.bool true) = true from rfl)]
        exact wpAny_bind (wpAny_setField_rec hz (by simp) fun g1 r1 q1 => wpAny_pure (h2 g1 r1 q1))
/-- the next pair -/
theorem zp_next {z TI TO i1 i2 l1 l2 : Addr} {k1 k2 : Nat} {xs ys : Array Value} {x y : Value} {Q : Value → Shared → Prop} (D : ZipApart z TI TO i1 i2 l1 l2)
    (hz : IsZp s.heap z TI TO) (hTI : IsPair s.heap TI (.ref i1) (.ref i2)) (hTO : ∃ a b, IsPair s.heap TO a b)
    (a1 : s.heap.IsTupleIter i1 l1 k1) (a2 : s.heap.IsTupleIter i2 l2 k2) (t1 : s.heap.IsTuple l1 xs) (t2 : s.heap.IsTuple l2 ys) (hx : xs[k1]? = some x) (hy : ys[k2]? = some y)
    (hQ : ∀ h', IsZp h' z TI TO → (∃ a b, IsPair h' TO a b) → h'.IsTupleIter i1 l1 (k1 + 1) → h'.IsTupleIter i2 l2 (k2 + 1) → IsPair h' s.heap.objs.size x y → h'.objs.size = s.heap.objs.size + 1 →
      (∀ c o, c ≠ z → c ≠ TO → c ≠ i1 → c ≠ i2 → s.heap.get? c = some o → h'.get? c = some o) → Q (.ref s.heap.objs.size) { s with heap := h' }) :
    wpAny (model prog w) A (Builtin.«zip.__next__» ⟨[.ref z], []⟩) (fun fin s' => ∃ v, fin = .done (.ret v) ∧ Q v s') E s := by
  obtain ⟨m, f, hz, hm⟩ := hz
  obtain ⟨b1, b2, hTO⟩ := hTO
  show wpAny _ _ (field (.ref z) 2 >>= _) _ _ _
  refine wpAny_bind (wpAny_field hz rfl (x := .bool false) rfl ?_)
  show wpAny _ _ (field (.ref z) 3 >>= _) _ _ _
  refine wpAny_bind (wpAny_field hz rfl (x := .ref TI) rfl (wpAny_bind (wpAny_seqItems hTI rfl ?_)))
  show wpAny _ _ (Builtin.SmallTypes.ownedTupleIsFree (.ref z) >>= _) _ _ _
  refine wpAny_bind (zp_free hz hm ?_ fun g1 r1 q1 => ?_)
  · simp only [if_true]
    refine wpAny_bind (wpAny_rule (wpAny_bind (wpAny_field hz rfl (x := .ref TO) rfl (wpAny_bind (wpAny_setField_rec hz (by simp) fun g1 r1 q1 => ?_)))))
    replace r1 : g1.get? z = some (zpO .ellipsis f TI TO) := r1
    refine wpAny_bind ?_
    simp only [List.zipIdx_cons, List.zipIdx_nil, List.forIn_cons, List.forIn_nil]
    refine wpAny_bind (wpAny_bind (wpAny_onRaise (show wpAny _ _ (Builtin.SmallTypes.nextOf (.ref i1) >>= _) _ _ _ from wpAny_bind (nextOf_tuple_item (a1.extBut q1.extBut D.i1z) (t1.extBut q1.extBut D.l1z) hx fun g2 r2 q2 => wpAny_pure ?_))))
    have o2 : IsPair g2 TO b1 b2 := q2.extBut _ _ D.TOi1 (q1.extBut _ _ D.TOz hTO)
    refine wpAny_bind (wpAny_seqItems o2 rfl (wpAny_bind (wpAny_updateSeq_pair o2 fun g3 o3 q3 => wpAny_bind (wpAny_letGo (wpAny_pure ?_)))))
    replace o3 : IsPair g3 TO x b2 := o3
    refine wpAny_bind (wpAny_bind (wpAny_onRaise (show wpAny _ _ (Builtin.SmallTypes.nextOf (.ref i2) >>= _) _ _ _ from wpAny_bind (nextOf_tuple_item (((a2.extBut q1.extBut D.i2z).extBut q2.extBut D.i12.symm).extBut q3.extBut D.TOi2.symm)
      (((t2.extBut q1.extBut D.l2z).extBut q2.extBut D.l2i1).extBut q3.extBut D.l2TO) hy fun g4 r4 q4 => wpAny_pure ?_))))
    have o4 : IsPair g4 TO x b2 := q4.extBut _ _ D.TOi2 o3
    refine wpAny_bind (wpAny_seqItems o4 rfl (wpAny_bind (wpAny_updateSeq_pair o4 fun g5 o5 q5 => wpAny_bind (wpAny_letGo (wpAny_pure (wpAny_pure ?_))))))
    replace o5 : IsPair g5 TO x y := o5
    refine wpAny_bind (wpAny_seqItems o5 rfl (wpAny_bind (wpAny_newTuple ?_)))
    have sz : g5.objs.size = s.heap.objs.size := by rw [q5.1, q4.1, q3.1, q2.1, q1.1]
    have z5 : g5.get? z = some (zpO .ellipsis f TI TO) := q5.extBut _ _ D.TOz.symm (q4.extBut _ _ D.i2z.symm (q3.extBut _ _ D.TOz.symm (q2.extBut _ _ D.i1z.symm r1)))
    have kp : ∀ c o, c ≠ z → c ≠ TO → c ≠ i1 → c ≠ i2 → s.heap.get? c = some o → g5.get? c = some o := fun c o n1 n2 n3 n4 e =>
      q5.extBut _ _ n2 (q4.extBut _ _ n4 (q3.extBut _ _ n2 (q2.extBut _ _ n3 (q1.extBut _ _ n1 e))))
    have j1 : g5.IsTupleIter i1 l1 (k1 + 1) := ((r2.extBut q3.extBut D.TOi1.symm).extBut q4.extBut D.i12).extBut q5.extBut D.TOi1.symm
    have j2 : g5.IsTupleIter i2 l2 (k2 + 1) := r4.extBut q5.extBut D.TOi2.symm
    have ltz : z < g5.objs.size := Heap.lt_size z5
    show wpAny _ _ (Builtin.SmallTypes.ownedTupleHandOut (.ref z) (.ref g5.objs.size) >>= _) _ _ _
    refine wpAny_bind ?_
    unfold Builtin.SmallTypes.ownedTupleHandOut
    have z6 : (g5.push { cls := .type "tuple", data := .seq #[x, y] }).get? z = some (zpO .ellipsis f TI TO) := Heap.get?_push_of_some _ z5
    refine wpAny_bind (wpAny_setField_rec z6 (by simp) fun g7 z7 q7 => ?_)
    replace z7 : g7.get? z = some (zpO (rawInt g5.objs.size) f TI TO) := z7
    refine wpAny_setField_rec z7 (by simp) fun g8 z8 q8 => ?_
    replace z8 : g8.get? z = some (zpO (rawInt g5.objs.size) false TI TO) := z8
    have up : ∀ c o, c ≠ z → g5.get? c = some o → g8.get? c = some o := fun c o n1 e => q8.extBut _ _ n1 (q7.extBut _ _ n1 (Heap.get?_push_of_some _ e))
    have T8 : IsPair g8 g5.objs.size x y := q8.extBut _ _ (Nat.ne_of_gt ltz) (q7.extBut _ _ (Nat.ne_of_gt ltz) (Heap.get?_push_size _ rfl))
    have s8 : g8.objs.size = g5.objs.size + 1 := by rw [q8.1, q7.1, Heap.size_push]
    have Z8 : IsZp g8 z TI TO := ⟨_, _, z8, .inr ⟨_, rfl⟩⟩
    rw [sz] at T8 s8
    refine wpAny_pure ⟨_, rfl, ?_⟩
    show Q (.ref g5.objs.size) _
    rw [sz]
    exact hQ g8 Z8 ⟨_, _, up _ _ D.TOz o5⟩ (j1.at fun o e => up _ o D.i1z e) (j2.at fun o e => up _ o D.i2z e) T8 s8 fun c o n1 n2 n3 n4 e => up c o n1 (kp c o n1 n2 n3 n4 e)
  · simp only [Bool.false_eq_true, if_false]
    refine wpAny_bind ?_
    rw [← Array.forIn_toList]
    simp only [List.forIn_cons, List.forIn_nil]
    refine wpAny_bind (wpAny_bind (wpAny_holding (show wpAny _ _ (Builtin.SmallTypes.nextOf (.ref i1) >>= _) _ _ _ from wpAny_bind (nextOf_tuple_item (s := { s with heap := g1 }) (a1.extBut q1.extBut D.i1z) (t1.extBut q1.extBut D.l1z) hx fun g2 r2 q2 => wpAny_pure (wpAny_pure ?_)))))
    refine wpAny_bind (wpAny_bind (wpAny_holding (show wpAny _ _ (Builtin.SmallTypes.nextOf (.ref i2) >>= _) _ _ _ from wpAny_bind (nextOf_tuple_item (s := { s with heap := g2 }) ((a2.extBut q1.extBut D.i2z).extBut q2.extBut D.i12.symm) ((t2.extBut q1.extBut D.l2z).extBut q2.extBut D.l2i1) hy fun g3 r3 q3 => wpAny_pure (wpAny_pure (wpAny_pure ?_))))))
    show wpAny _ _ (newTuple [x, y] >>= _) _ _ _
    refine wpAny_bind (wpAny_newTuple (wpAny_pure ⟨_, rfl, ?_⟩))
    have sz : g3.objs.size = s.heap.objs.size := by rw [q3.1, q2.1, q1.1]
    have kp : ∀ c o, c ≠ z → c ≠ i1 → c ≠ i2 → s.heap.get? c = some o → g3.get? c = some o := fun c o n1 n2 n3 e => q3.extBut _ _ n3 (q2.extBut _ _ n2 (q1.extBut _ _ n1 e))
    have z3 : g3.get? z = some (zpO m true TI TO) := q3.extBut _ _ D.i2z.symm (q2.extBut _ _ D.i1z.symm r1)
    have j1 : g3.IsTupleIter i1 l1 (k1 + 1) := r2.extBut q3.extBut D.i12
    show Q (.ref g3.objs.size) _
    have T4 : IsPair (g3.push { cls := .type "tuple", data := .seq #[x, y] }) g3.objs.size x y := Heap.get?_push_size _ rfl
    have s4 : (g3.push { cls := .type "tuple", data := .seq #[x, y] }).objs.size = g3.objs.size + 1 := Heap.size_push ..
    rw [sz] at T4 s4 ⊢
    exact hQ _ ⟨_, _, Heap.get?_push_of_some _ z3, hm⟩ ⟨_, _, Heap.get?_push_of_some _ (kp _ _ D.TOz D.TOi1 D.TOi2 hTO)⟩ (j1.at fun o e => Heap.get?_push_of_some _ e) (r3.at fun o e => Heap.get?_push_of_some _ e) T4 s4 fun c o n1 n2 n3 n4 e => Heap.get?_push_of_some _ (kp c o n1 n3 n4 e)
/-- no further pair -/
theorem zp_end {z TI TO i1 i2 l1 l2 : Addr} {k1 k2 : Nat} {xs ys : Array Value} {Q : Fin → Shared → Prop} (hh : A.handled = none) (D : ZipApart z TI TO i1 i2 l1 l2)
    (hz : IsZp s.heap z TI TO) (hTI : IsPair s.heap TI (.ref i1) (.ref i2)) (hTO : ∃ a b, IsPair s.heap TO a b)
    (a1 : s.heap.IsTupleIter i1 l1 k1) (a2 : s.heap.IsTupleIter i2 l2 k2) (t1 : s.heap.IsTuple l1 xs) (t2 : s.heap.IsTuple l2 ys) (he : xs[k1]? = none ∨ ys[k2]? = none)
    (hE : ∀ h' x, (∀ c o, c ≠ z → c ≠ TO → c ≠ i1 → c ≠ i2 → s.heap.get? c = some o → h'.get? c = some o) → (∃ o, h'.get? x = some o ∧ o.cls = .type "StopIteration") → E (.ref x) { s with heap := h' }) :
    wpAny (model prog w) A (Builtin.«zip.__next__» ⟨[.ref z], []⟩) Q E s := by
  obtain ⟨m, f, hz, hm⟩ := hz
  obtain ⟨b1, b2, hTO⟩ := hTO
  show wpAny _ _ (field (.ref z) 2 >>= _) _ _ _
  refine wpAny_bind (wpAny_field hz rfl (x := .bool false) rfl ?_)
  show wpAny _ _ (field (.ref z) 3 >>= _) _ _ _
  refine wpAny_bind (wpAny_field hz rfl (x := .ref TI) rfl (wpAny_bind (wpAny_seqItems hTI rfl ?_)))
  show wpAny _ _ (Builtin.SmallTypes.ownedTupleIsFree (.ref z) >>= _) _ _ _
  refine wpAny_bind (zp_free hz hm ?_ fun g1 r1 q1 => ?_)
  · simp only [if_true]
    refine wpAny_bind (wpAny_rule (wpAny_bind (wpAny_field hz rfl (x := .ref TO) rfl (wpAny_bind (wpAny_setField_rec hz (by simp) fun g1 r1 q1 => ?_)))))
    replace r1 : g1.get? z = some (zpO .ellipsis f TI TO) := r1
    refine wpAny_bind ?_
    simp only [List.zipIdx_cons, List.zipIdx_nil, List.forIn_cons, List.forIn_nil]
    refine wpAny_bind (wpAny_bind (wpAny_onRaise ?_))
    show wpAny _ _ (Builtin.SmallTypes.nextOf (.ref i1) >>= _) _ _ _
    cases hx : xs[k1]? with
    | none =>
      refine wpAny_bind (nextOf_tuple_end hh (a1.extBut q1.extBut D.i1z) (t1.extBut q1.extBut D.l1z) hx fun g2 e q2 ⟨oe, he1, he2⟩ => ?_)
      have z2 : g2.get? z = some (zpO .ellipsis f TI TO) := q2 _ _ D.i1z.symm r1
      have nz : e ≠ z := fun y => by subst y; rw [z2] at he1; cases he1; simp at he2
      exact wpAny_setField_rec z2 (by simp) fun g3 _ q3 => hE g3 e (fun c o n1 _ n3 _ y => q3.extBut _ _ n1 (q2 _ _ n3 (q1.extBut _ _ n1 y))) ⟨oe, q3.extBut _ _ nz he1, he2⟩
    | some x =>
      have hy : ys[k2]? = none := by
        rcases he with h | h
        · rw [hx] at h; cases h
        · exact h
      refine wpAny_bind (nextOf_tuple_item (a1.extBut q1.extBut D.i1z) (t1.extBut q1.extBut D.l1z) hx fun g2 r2 q2 => wpAny_pure ?_)
      have o2 : IsPair g2 TO b1 b2 := q2.extBut _ _ D.TOi1 (q1.extBut _ _ D.TOz hTO)
      refine wpAny_bind (wpAny_seqItems o2 rfl (wpAny_bind (wpAny_updateSeq_pair o2 fun g3 o3 q3 => wpAny_bind (wpAny_letGo (wpAny_pure (wpAny_bind (wpAny_bind (wpAny_onRaise ?_))))))))
      show wpAny _ _ (Builtin.SmallTypes.nextOf (.ref i2) >>= _) _ _ _
      refine wpAny_bind (nextOf_tuple_end hh (((a2.extBut q1.extBut D.i2z).extBut q2.extBut D.i12.symm).extBut q3.extBut D.TOi2.symm)
        (((t2.extBut q1.extBut D.l2z).extBut q2.extBut D.l2i1).extBut q3.extBut D.l2TO) hy fun g4 e q4 ⟨oe, he1, he2⟩ => ?_)
      have z4 : g4.get? z = some (zpO .ellipsis f TI TO) := q4 _ _ D.i2z.symm (q3.extBut _ _ D.TOz.symm (q2.extBut _ _ D.i1z.symm r1))
      have nz : e ≠ z := fun y => by subst y; rw [z4] at he1; cases he1; simp at he2
      exact wpAny_setField_rec z4 (by simp) fun g5 _ q5 => hE g5 e (fun c o n1 n2 n3 n4 y => q5.extBut _ _ n1 (q4 _ _ n4 (q3.extBut _ _ n2 (q2.extBut _ _ n3 (q1.extBut _ _ n1 y))))) ⟨oe, q5.extBut _ _ nz he1, he2⟩
  · simp only [Bool.false_eq_true, if_false]
    refine wpAny_bind ?_
    rw [← Array.forIn_toList]
    simp only [List.forIn_cons, List.forIn_nil]
    refine wpAny_bind (wpAny_bind (wpAny_holding ?_))
    show wpAny _ _ (Builtin.SmallTypes.nextOf (.ref i1) >>= _) _ _ _
    cases hx : xs[k1]? with
    | none =>
      refine wpAny_bind (nextOf_tuple_end (s := { s with heap := g1 }) hh (a1.extBut q1.extBut D.i1z) (t1.extBut q1.extBut D.l1z) hx fun g2 e q2 he1 => ?_)
      exact hE g2 e (fun c o n1 _ n3 _ y => q2 _ _ n3 (q1.extBut _ _ n1 y)) he1
    | some x =>
      have hy : ys[k2]? = none := by
        rcases he with h | h
        · rw [hx] at h; cases h
        · exact h
      refine wpAny_bind (nextOf_tuple_item (s := { s with heap := g1 }) (a1.extBut q1.extBut D.i1z) (t1.extBut q1.extBut D.l1z) hx fun g2 r2 q2 => wpAny_pure (wpAny_pure (wpAny_bind (wpAny_bind (wpAny_holding ?_)))))
      show wpAny _ _ (Builtin.SmallTypes.nextOf (.ref i2) >>= _) _ _ _
      refine wpAny_bind (nextOf_tuple_end (s := { s with heap := g2 }) hh ((a2.extBut q1.extBut D.i2z).extBut q2.extBut D.i12.symm) ((t2.extBut q1.extBut D.l2z).extBut q2.extBut D.l2i1) hy fun g3 e q3 he1 => ?_)
      exact hE g3 e (fun c o n1 n2 n3 n4 y => q3 _ _ n4 (q2.extBut _ _ n3 (q1.extBut _ _ n1 y))) he1
theorem IsZp.ty {z TI TO : Addr} (h : IsZp s.heap z TI TO) : s.TypeIs (.ref z) "zip" := by
  obtain ⟨m, f, h, _⟩ := h
  exact ⟨_, h, rfl⟩
/-- the number and the next pair -/
theorem ez_next {e z TI TO i1 i2 l1 l2 : Addr} {k : Nat} {xs ys : Array Value} {x y old : Value} {Q : Option Value → Shared → Prop} (D : ZipApart z TI TO i1 i2 l1 l2) (ne : e ≠ z ∧ e ≠ TI ∧ e ≠ TO ∧ e ≠ i1 ∧ e ≠ i2)
    (he : IsEnum s.heap e z k old) (hz : IsZp s.heap z TI TO) (hTI : IsPair s.heap TI (.ref i1) (.ref i2)) (hTO : ∃ a b, IsPair s.heap TO a b)
    (a1 : s.heap.IsTupleIter i1 l1 k) (a2 : s.heap.IsTupleIter i2 l2 k) (t1 : s.heap.IsTuple l1 xs) (t2 : s.heap.IsTuple l2 ys) (hx : xs[k]? = some x) (hy : ys[k]? = some y)
    (hQ : ∀ h' tk, IsEnumOut h' e z ((k : Int) + 1) (.ref s.heap.objs.size) (s.heap.objs.size + 1) → IsZp h' z TI TO → IsPair h' TI (.ref i1) (.ref i2) → (∃ a b, IsPair h' TO a b) → h'.IsTupleIter i1 l1 (k + 1) → h'.IsTupleIter i2 l2 (k + 1) → IsPair h' s.heap.objs.size x y → IsPair h' (s.heap.objs.size + 1) (.int k tk) (.ref s.heap.objs.size) → h'.objs.size = s.heap.objs.size + 2 →
      (∀ c o, c ≠ e → c ≠ z → c ≠ TO → c ≠ i1 → c ≠ i2 → s.heap.get? c = some o → h'.get? c = some o) → Q (some (.ref (s.heap.objs.size + 1))) { s with heap := h', toks := tk + 1 }) :
    wpAny (model prog w) A (pyNext (.ref e)) Q E s := by
  obtain ⟨n1, n2, n3, n4, n5⟩ := ne
  have hT : s.TypeIs (.ref e) "enumerate" := ⟨_, he, rfl⟩
  unfold pyNext
  refine wpAny_bind (wpAny_attempt (wpAny_callSpecial?_slot (name := Str.ofString "__next__") hT PySem.F.slot_enumerate_next
    (wpAny_call_entry PySem.F.slot_enumerate_next hT PySem.F.entry_enumerate_next ?_ (PySem.F.args_enumerate_next_1 _))))
  show wpAny _ _ (field (.ref e) 2 >>= _) _ _ _
  refine wpAny_bind (wpAny_field he rfl (x := .ref z) rfl ?_)
  show wpAny _ _ (Builtin.SmallTypes.nextOf (.ref z) >>= _) _ _ _
  refine wpAny_bind ?_
  unfold Builtin.SmallTypes.nextOf
  refine wpAny_bind (wpAny_callSpecial?_slot (name := Str.ofString "__next__") hz.ty PySem.F.slot_zip_next (wpAny_call_entry PySem.F.slot_zip_next hz.ty PySem.F.entry_zip_next
    (zp_next D hz hTI hTO a1 a2 t1 t2 hx hy fun g1 r1 o1 j1 j2 p1 s1 kp => wpAny_pure ?_) (PySem.F.args_zip_next_1 _)))
  have lt : e < s.heap.objs.size := Heap.lt_size he
  have e1 : IsEnum g1 e z k old := kp _ _ n1 n3 n4 n5 he
  have TI1 : IsPair g1 TI (.ref i1) (.ref i2) := kp _ _ D.TIz D.TITO D.TIi1 D.TIi2 hTI
  show wpAny _ _ (field (.ref e) 3 >>= _) _ _ { s with heap := g1 }
  refine wpAny_bind (wpAny_field e1 rfl (x := rawInt k) rfl ?_)
  show wpAny _ _ (field (.ref e) 4 >>= _) _ _ { s with heap := g1 }
  refine wpAny_bind (wpAny_field e1 rfl (x := .none) rfl ?_)
  show wpAny _ _ (mkInt k >>= _) _ _ { s with heap := g1 }
  refine wpAny_bind (wpAny_mkInt ?_)
  show wpAny _ _ (setField (.ref e) 3 (rawInt ((k : Int) + 1)) >>= _) _ _ { s with heap := g1, toks := s.toks + 1 }
  refine wpAny_bind (wpAny_setField_rec e1 (by simp) fun g2 e2 q2 => ?_)
  replace e2 : IsEnum g2 e z ((k : Int) + 1) old := e2
  show wpAny _ _ (setField (.ref e) 4 .none >>= _) _ _ { s with heap := g2, toks := s.toks + 1 }
  refine wpAny_bind (wpAny_setField_rec e2 (by simp) fun g3 e3 q3 => ?_)
  replace e3 : IsEnum g3 e z ((k : Int) + 1) old := e3
  show wpAny _ _ (newTuple [.int k s.toks, .ref s.heap.objs.size] >>= _) _ _ { s with heap := g3, toks := s.toks + 1 }
  refine wpAny_bind (wpAny_newTuple ?_)
  have sz : g3.objs.size = s.heap.objs.size + 1 := by rw [q3.1, q2.1, s1]
  have up : ∀ c o, c ≠ e → g1.get? c = some o → (g3.push { cls := .type "tuple", data := .seq #[.int k s.toks, .ref s.heap.objs.size] }).get? c = some o := fun c o nc y => Heap.get?_push_of_some _ (q3.extBut c o nc (q2.extBut c o nc y))
  have e4 : IsEnum (g3.push { cls := .type "tuple", data := .seq #[.int k s.toks, .ref s.heap.objs.size] }) e z ((k : Int) + 1) old := Heap.get?_push_of_some _ e3
  have P4 : IsPair (g3.push { cls := .type "tuple", data := .seq #[.int k s.toks, .ref s.heap.objs.size] }) (s.heap.objs.size + 1) (.int k s.toks) (.ref s.heap.objs.size) := by rw [← sz]; exact Heap.get?_push_size _ rfl
  have s4 : (g3.push { cls := .type "tuple", data := .seq #[.int k s.toks, .ref s.heap.objs.size] }).objs.size = s.heap.objs.size + 2 := by rw [Heap.size_push, sz]
  rw [sz]
  generalize g3.push { cls := .type "tuple", data := .seq #[.int k s.toks, .ref s.heap.objs.size] } = g4 at up e4 P4 s4 ⊢
  show wpAny _ _ (Builtin.SmallTypes.ownedTupleIsFree (.ref e) >>= _) _ _ { s with heap := g4, toks := s.toks + 1 }
  refine wpAny_bind ?_
  unfold Builtin.SmallTypes.ownedTupleIsFree
  refine wpAny_bind (wpAny_field e4 rfl (x := .none) rfl (wpAny_pure ?_))
  simp only [if_true]
  refine wpAny_bind (wpAny_rule (wpAny_bind (wpAny_field e4 rfl (x := old) rfl (wpAny_bind (wpAny_setField_rec e4 (by simp) fun g5 e5 q5 => ?_)))))
  replace e5 : IsEnum g5 e z ((k : Int) + 1) (.ref s.heap.objs.size) := e5
  show wpAny _ _ (Builtin.SmallTypes.ownedTupleHandOut (.ref e) (.ref (s.heap.objs.size + 1)) >>= _) _ _ { s with heap := g5, toks := s.toks + 1 }
  refine wpAny_bind ?_
  unfold Builtin.SmallTypes.ownedTupleHandOut
  refine wpAny_bind (wpAny_setField_rec e5 (by simp) fun g6 e6 q6 => ?_)
  replace e6 : IsEnumOut g6 e z ((k : Int) + 1) (.ref s.heap.objs.size) (s.heap.objs.size + 1) := e6
  refine wpAny_setField_rec e6 (by simp) fun g7 e7 q7 => ?_
  replace e7 : IsEnumOut g7 e z ((k : Int) + 1) (.ref s.heap.objs.size) (s.heap.objs.size + 1) := e7
  have fin : ∀ c o, c ≠ e → g1.get? c = some o → g7.get? c = some o := fun c o nc y => q7.extBut c o nc (q6.extBut c o nc (q5.extBut c o nc (up c o nc y)))
  obtain ⟨m, f, r1, hm⟩ := r1
  obtain ⟨c1, c2, o1⟩ := o1
  refine wpAny_bind (wpAny_letGo (wpAny_pure ⟨_, rfl, wpAny_pure (hQ g7 s.toks e7 ⟨m, f, fin _ _ n1.symm r1, hm⟩ (fin _ _ n2.symm TI1) ⟨c1, c2, fin _ _ n3.symm o1⟩ (j1.at fun o y => fin _ o n4.symm y) (j2.at fun o y => fin _ o n5.symm y) (fin _ _ (Nat.ne_of_gt lt) p1) ?_ ?_ fun c o m1 m2 m3 m4 m5 y => fin c o m1 (kp c o m2 m3 m4 m5 y))⟩))
  · have ge : s.heap.objs.size + 1 ≠ e := Nat.ne_of_gt (Nat.lt_succ_of_lt lt)
    exact q7.extBut _ _ ge (q6.extBut _ _ ge (q5.extBut _ _ ge P4))
  · rw [q7.1, q6.1, q5.1, s4]
theorem ez_end {e z TI TO i1 i2 l1 l2 : Addr} {k : Nat} {xs ys : Array Value} {old : Value} {Q : Option Value → Shared → Prop} (hh : A.handled = none) (D : ZipApart z TI TO i1 i2 l1 l2)
    (he : IsEnum s.heap e z k old) (hz : IsZp s.heap z TI TO) (hTI : IsPair s.heap TI (.ref i1) (.ref i2)) (hTO : ∃ a b, IsPair s.heap TO a b)
    (a1 : s.heap.IsTupleIter i1 l1 k) (a2 : s.heap.IsTupleIter i2 l2 k) (t1 : s.heap.IsTuple l1 xs) (t2 : s.heap.IsTuple l2 ys) (hend : xs[k]? = none ∨ ys[k]? = none)
    (hQ : ∀ h', (∀ c o, c ≠ z → c ≠ TO → c ≠ i1 → c ≠ i2 → s.heap.get? c = some o → h'.get? c = some o) → Q none { s with heap := h' }) : wpAny (model prog w) A (pyNext (.ref e)) Q E s := by
  have hT : s.TypeIs (.ref e) "enumerate" := ⟨_, he, rfl⟩
  unfold pyNext
  refine wpAny_bind (wpAny_attempt (wpAny_callSpecial?_slot (name := Str.ofString "__next__") hT PySem.F.slot_enumerate_next
    (wpAny_call_entry PySem.F.slot_enumerate_next hT PySem.F.entry_enumerate_next ?_ (PySem.F.args_enumerate_next_1 _))))
  show wpAny _ _ (field (.ref e) 2 >>= _) _ _ _
  refine wpAny_bind (wpAny_field he rfl (x := .ref z) rfl ?_)
  show wpAny _ _ (Builtin.SmallTypes.nextOf (.ref z) >>= _) _ _ _
  refine wpAny_bind ?_
  unfold Builtin.SmallTypes.nextOf
  refine wpAny_bind (wpAny_callSpecial?_slot (name := Str.ofString "__next__") hz.ty PySem.F.slot_zip_next (wpAny_call_entry PySem.F.slot_zip_next hz.ty PySem.F.entry_zip_next
    (zp_end hh D hz hTI hTO a1 a2 t1 t2 hend fun g1 x kp hx => ?_) (PySem.F.args_zip_next_1 _)))
  obtain ⟨o, ho, hc⟩ := hx
  refine wpAny_bind (wpAny_isInstance (T := "StopIteration") (b := true) ⟨o, ho, hc⟩ isSubtype_stop ?_)
  exact wpAny_pure (hQ _ kp)
/-- enumerate(z) of a zip -/
theorem call_ez {z TI TO : Addr} {Q : Value → Shared → Prop} (hz : IsZip s.heap z TI TO .none)
    (h : ∀ h', IsEnum h' s.heap.objs.size z 0 .none → h'.objs.size = s.heap.objs.size + 1 → (∀ b o, s.heap.get? b = some o → h'.get? b = some o) → Q (.ref s.heap.objs.size) { s with heap := h' }) :
    wpAny (model prog w) A (call (.type "enumerate") [.ref z]) Q E s := by
  have M : Meets (Builtin.«enumerate.__new__» ⟨[.type "enumerate", .ref z], []⟩) (fun _ R s => IsZip s.heap z TI TO .none ∧
      R (.ok (.ret (.ref s.heap.objs.size))) { s with heap := s.heap.push { cls := .type "enumerate", data := .fields #[.none, .bool false, .ref z, rawInt 0, .none, .none] } }) := .of_wp fun prog w A R s h => by
    obtain ⟨hp, g, d, tk, os⟩ := s
    obtain ⟨h1, h⟩ := h
    have hsub := sub_enumerate
    have q1 : ∀ {A' : Around} {E : Value → Shared → Prop} {Q : Value → Shared → Prop}, Q (.ref z) ⟨hp, g, d, tk, os⟩ → wpAny (model prog w) A' (pyIter (.ref z)) Q E ⟨hp, g, d, tk, os⟩ := fun q => wpAny_pyIter_zip h1 q
    wp_walk using q1
    refine wpAny_stack_any fun st => wpAny_pure ?_
    split
    · rename_i c _ _ _ _ _
      cases (c == Value.type "enumerate")
      · wp_walk using q1
        exact ⟨_, rfl, h⟩
      · wp_walk using q1
        exact ⟨_, rfl, h⟩
    · wp_walk using q1
      exact ⟨_, rfl, h⟩
  refine callType_new PySem.F.called_enumerate (by decide) (PySem.F.typeCall_enumerate_1 _) (PySem.F.newCall_enumerate_1 _) (fun obj => PySem.F.args_object_init_2 obj _) PySem.F.entry_enumerate_new M ⟨hz, ?_⟩
  have he : IsEnum (s.heap.push { cls := .type "enumerate", data := .fields #[.none, .bool false, .ref z, rawInt 0, .none, .none] }) s.heap.objs.size z 0 .none := Heap.get?_push_size _ rfl
  exact ⟨⟨_, he, rfl⟩, h _ he (Heap.size_push ..) fun b o y => Heap.get?_push_of_some _ y⟩
end
end Kd

set_option Elab.async false
set_option linter.all false
set_option maxRecDepth 100000
/-! KfC: t[r::c], x[a:b] = list, sorted(tuple of ints). -/
namespace Kd
open PySem PySem.Spec PyProof.Rows L2
open Evl (Ex ex_l ex_t ex_rd fresh_back)
def strideN (n r c : Nat) : Nat := if r < n then (n - r - 1) / c + 1 else 0
def stepPick {α : Type} (xs : List α) (r c : Nat) : List α := (List.range (strideN xs.length r c)).filterMap fun k => xs[r + k * c]?
theorem stepPick_len {α : Type} (xs : List α) (r c : Nat) : (stepPick xs r c).length ≤ xs.length := by
  unfold stepPick
  refine Nat.le_trans (List.length_filterMap_le _ _) ?_
  rw [List.length_range]
  unfold strideN
  split
  · have := Nat.div_le_self (xs.length - r - 1) c
    exact Nat.le_trans (Nat.succ_le_succ this) (by omega)
  · exact Nat.zero_le _
theorem stepPick_all {α : Type} (xs : List α) : stepPick xs 0 1 = xs := by
  unfold stepPick strideN
  have e : (if 0 < xs.length then (xs.length - 0 - 1) / 1 + 1 else 0) = xs.length := by
    split
    · rw [Nat.div_one]
      omega
    · omega
  rw [e]
  apply List.ext_getElem?
  intro t
  have h : (List.range xs.length).filterMap (fun k => xs[0 + k * 1]?) = xs := by
    have e2 : (fun k => xs[0 + k * 1]?) = fun k => xs[k]? := by
      funext k
      rw [Nat.zero_add, Nat.mul_one]
    rw [e2]
    clear e e2
    induction xs with
    | nil => rfl
    | cons x xs ih =>
      rw [List.length_cons, List.range_succ_eq_map, List.filterMap_cons]
      simp only [List.getElem?_cons_zero, List.filterMap_map]
      congr 1
  rw [h]
theorem stepPick_whole {α : Type} {xs : List α} {r c : Nat} (h : c = 1 ∧ (r = 0 ∨ xs.length = 0)) : stepPick xs r c = xs := by
  obtain ⟨rfl, rfl | e⟩ := h
  · exact stepPick_all xs
  · have : xs = [] := List.eq_nil_of_length_eq_zero e
    subst this
    rfl
theorem slicePlaces_pos (r n c : Nat) (hc : 1 ≤ c) : Builtin.Slice.slicePlaces ((min r n : Nat) : Int) (n : Int) (c : Int) = strideN n r c := by
  unfold Builtin.Slice.slicePlaces strideN
  rw [if_pos (show (c : Int) > 0 by omega)]
  by_cases h : r < n
  · rw [if_pos h, if_pos (by omega), show ((n : Int) - ((min r n : Nat) : Int) - 1) = ((n - r - 1 : Nat) : Int) by omega, ← Int.natCast_ediv]
    generalize (n - r - 1) / c = d
    omega
  · rw [if_neg h, if_neg (by omega)]
    rfl
section
variable {prog : Program} {w : World} {A : Around} {E : Value → Shared → Prop} {s : Shared}
theorem sliceApplied_step {sl : Addr} {vl vs : Value} {r c n : Nat} {Q : Int × Int × Nat → Shared → Prop} (hs : s.heap.IsSliceOf sl vl .none vs) (pl : IsPart vl (some (r : Int))) (ps : IsPart vs (some (c : Int))) (hc : 1 ≤ c)
    (h : Q (((min r n : Nat) : Int), (c : Int), strideN n r c) s) : wpAny (model prog w) A (Builtin.Slice.sliceApplied (.ref sl) (pure (n : Int))) Q E s := by
  obtain ⟨os, hos, hcs, hds⟩ := id hs
  unfold Builtin.Slice.sliceApplied Builtin.Slice.sliceFields
  refine wpAny_bind (wpAny_bind (wpAny_field hos hds (x := vl) rfl (wpAny_bind (wpAny_field hos hds (x := .none) rfl (wpAny_bind (wpAny_field hos hds (x := vs) rfl (wpAny_pure ?_)))))))
  refine wpAny_bind (HT.slicePart_ ps ?_)
  show wpAny _ _ (if ((c : Int) == 0) = true then _ else _) _ _ s
  rw [if_neg (by rw [beq_iff_eq]; omega)]
  refine wpAny_bind (HT.slicePart_ pl (wpAny_bind (slicePart_none (wpAny_bind (wpAny_pure ?_)))))
  have e : Builtin.Slice.sliceAdjust (some (r : Int)) none (c : Int) (n : Int) = (((min r n : Nat) : Int), (n : Int)) := by
    unfold Builtin.Slice.sliceAdjust
    have h1 : ¬ ((c : Int) < 0) := by omega
    have h2 : ¬ ((r : Int) < 0) := by omega
    simp only [h1, h2, if_false]
    refine Prod.ext ?_ rfl
    show min (r : Int) (n : Int) = _
    omega
  show wpAny _ _ (match Builtin.Slice.sliceAdjust (some (r : Int)) none (c : Int) (n : Int) with | (lo, hi) => pure (lo, (c : Int), Builtin.Slice.slicePlaces lo hi c)) _ _ s
  rw [e]
  show wpAny _ _ (pure (((min r n : Nat) : Int), (c : Int), Builtin.Slice.slicePlaces ((min r n : Nat) : Int) (n : Int) (c : Int))) _ _ s
  rw [slicePlaces_pos r n c hc]
  exact wpAny_pure h
theorem getItem_tuple_step {t sl : Addr} {items : Array Value} {vl vs : Value} {r c : Nat} {Q : Value → Shared → Prop} (ht : IsTup s.heap t items) (hs : s.heap.IsSliceOf sl vl .none vs) (pl : IsPart vl (some (r : Int))) (ps : IsPart vs (some (c : Int))) (hc : 1 ≤ c)
    (h0 : c = 1 ∧ (r = 0 ∨ items.size = 0) → Q (.ref t) s)
    (h : Q (.ref s.heap.objs.size) { s with heap := s.heap.push { cls := .type "tuple", data := .seq (stepPick items.toList r c).toArray } })
    (hsz : items.size ≤ sizeLine) : wpAny (model prog w) A (getItem (.ref t) (.ref sl)) Q E s := by
  have hfit : sizeOk (.seq (stepPick items.toList r c).toArray) := by
    show (stepPick items.toList r c).toArray.size ≤ sizeLine
    rw [List.size_toArray]
    exact Nat.le_trans (stepPick_len _ _ _) (by rw [Array.length_toList]; exact hsz)
  obtain ⟨os, hos, hcs, hds⟩ := id hs
  have hTs : s.TypeIs (.ref sl) "slice" := ⟨os, hos, hcs⟩
  unfold getItem
  try with_reducible refine wpAny_holding ?_
  first | refine wpAny_bind (wpAny_pure ?_) | skip
  refine wpAny_bind (wpAny_sequenceKey ht.typeIs (by decide) (wpAny_bind (wpAny_callSpecial?_slot (name := Str.ofString "__getitem__") ht.typeIs PyProof.Rows.slot_tuple_getitem
    (wpAny_call_entry PyProof.Rows.slot_tuple_getitem ht.typeIs entry_tuple_getitem ?_ (args_tuple_getitem _ _)))))
  show wpAny _ _ (Builtin.Tuple.tupleItemsOf (.ref t) >>= _) _ _ s
  refine wpAny_bind (tupleItemsOf_ ht (wpAny_bind (wpAny_typeOf hTs ?_)))
  rw [if_pos (by decide)]
  refine wpAny_bind (sliceApplied_step hs pl ps hc ?_)
  have epick : ((List.range (strideN items.size r c)).filterMap fun (k : Nat) => items[(((min r items.size : Nat) : Int) + (k : Int) * (c : Int)).toNat]?).toArray = (stepPick items.toList r c).toArray := by
    unfold stepPick
    rw [Array.length_toList]
    congr 1
    by_cases hr : r < items.size
    · refine congrArg (fun f => (List.range (strideN items.size r c)).filterMap f) (funext fun k => ?_)
      rw [Nat.min_eq_left (Nat.le_of_lt hr), show (((r : Nat) : Int) + (k : Int) * (c : Int)).toNat = r + k * c by rw [← Int.natCast_mul, ← Int.natCast_add, Int.toNat_natCast], Array.getElem?_toList]
    · have : strideN items.size r c = 0 := if_neg hr
      rw [this]
      rfl
  show wpAny _ _ (if (((min r items.size : Nat) : Int) == 0 && (c : Int) == 1 && strideN items.size r c == items.size) = true then _ else _) _ _ s
  rw [epick]
  by_cases hw : (((min r items.size : Nat) : Int) == 0 && (c : Int) == 1 && strideN items.size r c == items.size) = true
  · rw [if_pos hw]
    rw [Bool.and_eq_true, Bool.and_eq_true] at hw
    have q1 : ((min r items.size : Nat) : Int) = 0 := eq_of_beq hw.1.1
    have q2 : (c : Int) = 1 := eq_of_beq hw.1.2
    have e1 : c = 1 ∧ (r = 0 ∨ items.size = 0) := ⟨by omega, by omega⟩
    refine wpAny_bind ?_
    show wpAny _ _ (typeOf (.ref t) >>= fun T => pure (T == .type "tuple")) _ _ s
    refine wpAny_bind (wpAny_typeOf ht.typeIs (wpAny_pure ?_))
    first
      | rw [if_pos (by decide)]
      | simp only [beq_self_eq_true, if_true]
    first
      | exact wpAny_bind (wpAny_rule (wpAny_pure ⟨_, rfl, wpAny_pure (h0 e1)⟩))
      | exact wpAny_bind (wpAny_rule (wpAny_bind (wpAny_pure (wpAny_pure ⟨_, rfl, wpAny_pure (h0 e1)⟩))))
  · rw [if_neg hw]
    first
      | exact wpAny_bind (m := Builtin.Tuple.tupleExact _) (wpAny_newObj_type (wpAny_pure ⟨_, rfl, wpAny_pure h⟩) hfit)
      | exact wpAny_bind (m := Builtin.Tuple.tupleExact _) (wpAny_newObj_type (wpAny_bind (wpAny_pure (wpAny_pure ⟨_, rfl, wpAny_pure h⟩))) hfit)
      | exact wpAny_bind (wpAny_bind (m := Builtin.Tuple.tupleExact _) (wpAny_newObj_type (wpAny_pure (wpAny_pure ⟨_, rfl, wpAny_pure h⟩)) hfit))
      | exact wpAny_bind (wpAny_bind (m := Builtin.Tuple.tupleExact _) (wpAny_newObj_type (wpAny_pure ⟨_, rfl, wpAny_pure h⟩) hfit))
end
theorem Vals.stepPick {xs : List V} {us : List Value} (h : Vals xs us) (r c : Nat) : Vals (stepPick xs r c) (stepPick us r c) := by
  have hl := h.length
  unfold Kd.stepPick
  rw [hl]
  have key : ∀ ks : List Nat, Vals (ks.filterMap fun k => xs[r + k * c]?) (ks.filterMap fun k => us[r + k * c]?) := by
    intro ks
    induction ks with
    | nil => exact .nil
    | cons k ks ih =>
      rw [List.filterMap_cons, List.filterMap_cons]
      cases hx : xs[r + k * c]? with
      | none =>
        have : us[r + k * c]? = none := List.getElem?_eq_none (by rw [← hl]; exact List.getElem?_eq_none_iff.mp hx)
        rw [this]
        exact ih
      | some x =>
        obtain ⟨u, hu, ru⟩ := h.get hx
        rw [hu]
        exact .cons ru ih
  exact key _
section
variable {X : Cx}
def tStep (K : PySem.W.Frag) (te ta tc : TE) : TE := fun σ H Q => te σ H fun x H1 => ta σ H1 fun y H2 => tc σ H2 fun z H3 => ∃ (a : Addr) (xs : List V) (r c : Nat), x = .ref a ∧ y = .int r ∧ z = .int c ∧ 1 ≤ c ∧ SqT K H3 a xs ∧ (c = 1 ∧ (r = 0 ∨ xs.length = 0) → Q (.ref a) H3) ∧ ∀ p, H3 p = none → Q (.ref p) (upd H3 p (.tup (stepPick xs r c)))
/-- t[r::c] -/
theorem pe_step {e lo st : Expr} {te ta tc : TE} {p2 pos : Pos} (he : PE X e te) (hl : PE X lo ta) (hst : PE X st tc) : PE X (.Subscript e (.Slice (some lo) none (some st) p2) pos) (tStep X.K te ta tc) := by
  refine ⟨fun pins s σ H Q I h => ?_⟩
  refine Subscript_ (thn (he.run pins s σ H _ I h) fun v s1 ⟨x, H1, I1, r1, q1⟩ => ?_)
  have pl := po_some hl
  have pst := po_some hst
  refine wpAny_Slice ?_
  rw [evalPart_some]
  refine thn (hl.run pins s1 σ H1 _ I1 q1) fun vl s2 ⟨y, H2, I2, r2, q2⟩ => ?_
  rw [evalPart_none]
  refine wpAny_pure ?_
  rw [evalPart_some]
  refine thn (hst.run pins s2 σ H2 _ I2 q2) fun vs s3 ⟨z, H3, I3, r3, q3⟩ => ?_
  obtain ⟨a, xs, r, c, rfl, rfl, rfl, hc, hx, k0, k1⟩ := q3
  cases r1
  obtain ⟨tl, rfl⟩ := r2
  obtain ⟨tc, rfl⟩ := r3
  have I4 : Inv X pins σ H3 { s3 with heap := s3.heap.push { cls := .type "slice", data := .fields #[.int r tl, .none, .int c tc] } } := I3.kept (t' := s3.toks) fun b ob q => Heap.get?_push_of_some _ q
  obtain ⟨its, rv, ht, hz⟩ := I4.tuple hx
  have hlen := rv.length
  show wpAny (model X.prog X.w) X.A (subscriptTail e (.Slice (some lo) none (some st) p2) (.ref a) (.ref s3.heap.objs.size)) (EP X pins σ Q) X.xe { s3 with heap := s3.heap.push { cls := .type "slice", data := .fields #[.int r tl, .none, .int c tc] } }
  refine tail_any (ops := [.ref a, .ref s3.heap.objs.size]) ht.typeIs (PyProof.Rows.slot_tuple_getitem.lookup) ?_ (by with_unfolding_all rfl)
  refine getItem_tuple_step ht (Heap.IsSliceOf.new _ (.int r tl) .none (.int c tc)) (.int _ _) (.int _ _) hc (fun e1 => ?_) ?_ (by rw [List.size_toArray]; omega)
  · rw [List.size_toArray, ← hlen] at e1
    exact ⟨.ref a, H3, I4, rfl, k0 e1⟩
  · refine ⟨.ref _, _, I4.laid (t' := s3.toks) (o := .tup (stepPick xs r c)) (fun b ob q => Heap.get?_push_of_some _ q) (Nat.le_refl _) ?_, rfl, k1 _ (I4.hok.fresh (Nat.le_refl _))⟩
    exact ⟨Nat.le_trans (stepPick_len _ _ _) hz, _, Vals.stepPick rv r c, IsTup.new _ _⟩
/-! x[a:b] = a list -/
def gSubSl (to ta tb : TE) : TG := fun v σ H Q => to σ H fun o H1 => ta σ H1 fun y H2 => tb σ H2 fun z H3 => ∃ (p b : Addr) (xs ys : List V) (i j : Int), o = .ref p ∧ v = .ref b ∧ y = .int i ∧ z = .int j ∧ H3 p = some (.lst xs) ∧ H3 b = some (.lst ys) ∧ p ≠ b ∧ 0 ≤ i ∧ i ≤ j ∧ j ≤ xs.length ∧ xs.length + ys.length ≤ sizeLine ∧ Q σ (upd H3 p (.lst (xs.take i.toNat ++ ys ++ xs.drop j.toNat)))
theorem pg_subSl {o lo hi : Expr} {to ta tb : TE} {pos p2 : Pos} (ho : PE X o to) (hl : PE X lo ta) (hh : PE X hi tb)
    (ha : ∀ v, assign (.Subscript o (.Slice (some lo) (some hi) none p2) pos) X.env v = (do
      let ov ← holding [v] (eval o X.env)
      let iv ← holding [v, ov] (eval (.Slice (some lo) (some hi) none p2) X.env)
      standAt pos
      holding [v, ov, iv] (setItem ov iv v)
      release [iv, v, ov] []) := by intro _; rfl) : PG X (.Subscript o (.Slice (some lo) (some hi) none p2) pos) (gSubSl to ta tb) := by
  refine ⟨fun pins s σ H v u Q I rv h => ?_⟩
  rw [ha]
  refine wpAny_bind (wpAny_holding (thn (ho.run pins s σ H _ I h) fun ov s1 ⟨x, H1, I1, r1, q1⟩ => ?_))
  refine wpAny_bind (wpAny_holding (wpAny_Slice ?_))
  rw [evalPart_some]
  refine thn (hl.run pins s1 σ H1 _ I1 q1) fun vl s2 ⟨y, H2, I2, r2, q2⟩ => ?_
  rw [evalPart_some]
  refine thn (hh.run pins s2 σ H2 _ I2 q2) fun vu s3 ⟨z, H3, I3, r3, q3⟩ => ?_
  rw [evalPart_none]
  refine wpAny_pure ?_
  obtain ⟨p, b, xs, ys, i, j, rfl, rfl, rfl, rfl, hp, hb, hne, h0, hij, hj, hz, q⟩ := q3
  cases r1
  cases rv
  have I4 : Inv X pins σ H3 { s3 with heap := s3.heap.push { cls := .type "slice", data := .fields #[vl, vu, .none] } } := I3.kept (t' := s3.toks) fun b ob q => Heap.get?_push_of_some _ q
  refine wpAny_bind (wpAny_standAt (wpAny_bind (wpAny_holding (set_slice I4 hp hb hne (Heap.IsSliceOf.new _ vl vu .none) r2 r3 h0 hij hj hz fun s' I5 => ?_))))
  exact wpAny_release ⟨σ, _, I5, q⟩
end
section
variable {S : Sh} {fl : Bool} {ρ : List Sl} {e a b o : Expr} {rest es : List Expr} {pos p2 p : Pos} {X : Str → Prop} {Q : Sl → List Sl → Prop} {s1 : Sl}
def StepK (s1 s2 s3 : Sl) (K : PyData → Prop) : Prop := ∃ (ds : List PyData) (r c : Nat), s1 = .im (.tuple ds) ∧ s2 = .im (.int r) ∧ s3 = .im (.int c) ∧ 1 ≤ c ∧ K (.tuple (stepPick ds r c))
theorem stepk {ds : List PyData} {r c : Int} {K : PyData → Prop} (h0 : 0 ≤ r) (h1 : 1 ≤ c) (k : K (.tuple (stepPick ds r.toNat c.toNat))) : StepK (.im (.tuple ds)) (.im (.int r)) (.im (.int c)) K := ⟨ds, r.toNat, c.toNat, rfl, by rw [Int.toNat_of_nonneg h0], by rw [Int.toNat_of_nonneg (by omega)], by omega, k⟩
theorem DtA.stepPick {K : PySem.W.Frag} {H : Hp} {vs : List V} {ds : List PyData} (h : DtA K H vs ds) (r c : Nat) : DtA K H (stepPick vs r c) (stepPick ds r c) := by
  have hl := h.len
  unfold Kd.stepPick
  rw [hl]
  have key : ∀ ks : List Nat, DtA K H (ks.filterMap fun k => vs[r + k * c]?) (ks.filterMap fun k => ds[r + k * c]?) := by
    intro ks
    induction ks with
    | nil => exact .nil
    | cons k ks ih =>
      rw [List.filterMap_cons, List.filterMap_cons]
      cases hx : ds[r + k * c]? with
      | none =>
        have : vs[r + k * c]? = none := List.getElem?_eq_none (by rw [hl]; exact List.getElem?_eq_none_iff.mp hx)
        rw [this]
        exact ih
      | some x =>
        obtain ⟨u, hu, ru⟩ := h.get hx
        rw [hu]
        exact .cons ru ih
  exact key _
theorem ce_step {lo st : Expr} (h : CE S fl ρ a X fun s1 ρ1 => CE S false ρ1 lo X fun s2 ρ2 => CE S false ρ2 st X fun s3 ρ3 => StepK s1 s2 s3 fun d => Q (.im d) ρ3) : CE S fl ρ (.Subscript a (.Slice (some lo) none (some st) p2) pos) X Q := fun C τ vs σ H k l nv QQ qq xx =>
  ⟨tStep S.K (wE S a) (wE S lo) (wE S st), fun X hX => by rw [← hX.K]; exact pe_step (wE_pe hX) (wE_pe hX) (wE_pe hX), h C τ vs σ H k l nv _ (fun s1 ρ1 v1 H1 h1 k1 =>
    h1 C (s1 :: τ) (some v1 :: vs) σ H1 k1 (congrArg (· + 1) l) (fun z => nomatch z) _ (fun s2 ρ2 v2 H2 h2 k2 => h2 C (s2 :: s1 :: τ) (some v2 :: some v1 :: vs) σ H2 k2 (congrArg (· + 2) l) (fun z => nomatch z) _ (fun s3 ρ3 v3 H3 z k3 => by
      obtain ⟨ds, r, c, rfl, rfl, rfl, hc, q⟩ := z
      have e3 := k3.int
      subst e3
      have e2 := k3.tail.int
      subst e2
      obtain ⟨B, G, fp, k4, hd⟩ := k3.tail.tail.head
      cases hd with
      | @tup t xs _ hs hx =>
        refine ⟨t, xs, r, c, rfl, rfl, rfl, hc, ex_t k4.bh hs, fun hw => qq _ ρ3 _ _ q (k4.put ?_), fun t' ht' => qq _ ρ3 _ _ q ?_⟩
        · rw [stepPick_whole (by rw [← hx.len]; exact hw)]
          exact .tup hs hx
        · exact (k4.lay ht').put (.tup (.inl (.inl upd_same)) ((hx.stepPick r c).up (Ex.new (Ok.fresh k4 ht').1)))) (xx.cons.cons)) xx.cons) xx⟩
def SetSK (i : Nat) (es : List PyData) (ρ : List Sl) (a b : Int) (K : List Sl → Prop) : Prop := ∃ ds, ρ[i]? = some (.ow ds) ∧ 0 ≤ a ∧ a ≤ b ∧ b ≤ ds.length ∧ ds.length + es.length ≤ 100000 ∧ ρ.all noV = true ∧ K (ρ.set i (.ow (ds.take a.toNat ++ es ++ ds.drop b.toNat)))
theorem setsk {i : Nat} {ρ : List Sl} {es : List PyData} {K : List Sl → Prop} {ds : List PyData} {a b : Int} (h : ρ[i]? = some (.ow ds)) (h0 : 0 ≤ a) (h1 : a ≤ b) (h2 : b ≤ ds.length) (hz : ds.length + es.length ≤ 100000) (nv : ρ.all noV = true) (q : K (ρ.set i (.ow (ds.take a.toNat ++ es ++ ds.drop b.toNat)))) : SetSK i es ρ a b K := ⟨ds, h, h0, h1, h2, hz, nv, q⟩
end
section
variable {S : Sh} {ρ : List Sl} {e a b o : Expr} {rest : List Stmt} {pos p2 p : Pos} {P : Pst} {x : Str} {i : Nat}
/-- x[lo:hi] = e, e a new list -/
theorem rx_setSl {p1 p2 p3 : Pos} {lo hi : Expr} (hN : Ix S.N i x) (hv : Vis S.sc x) (h : CE S true ρ e P.ex fun r ρ1 => ∃ es ds0, r = .ow es ∧ ρ1[i]? = some (.ow ds0) ∧ CE S false ρ1 lo P.ex fun s ρ2 => InK s fun a => CE S false ρ2 hi P.ex fun s2 ρ3 => InK s2 fun b => SetSK i es ρ3 a b fun ρ4 => RB S ρ4 rest P)
    (hd : (x == ("__debug__" : Str)) = false := by decide) (hcd : (x == ("__classdict__" : Str)) = false := by decide)
    (hs : ∀ X : Cx, swapsWithSole [.Subscript (.Name x p1) (.Slice (some lo) (some hi) none p3) p2] e pos.line X.env = pure false := by intro _; rfl) (hw : ∀ X : Cx, swappedStores [.Subscript (.Name x p1) (.Slice (some lo) (some hi) none p3) p2] e X.env = pure none := by intro _; rfl)
    (h1 : ∀ X : Cx, (assignEach [.Subscript (.Name x p1) (.Slice (some lo) (some hi) none p3) p2] X.env).map (·.2) = [assign (.Subscript (.Name x p1) (.Slice (some lo) (some hi) none p3) p2) X.env] := by intro _; rfl)
    (ha : ∀ (X : Cx) v, assign (.Subscript (.Name x p1) (.Slice (some lo) (some hi) none p3) p2) X.env v = (do
      let ov ← holding [v] (eval (.Name x p1) X.env)
      let iv ← holding [v, ov] (eval (.Slice (some lo) (some hi) none p3) X.env)
      standAt p2
      holding [v, ov, iv] (setItem ov iv v)
      release [iv, v, ov] []) := by intro _ _; rfl) : RB S ρ (.Assign [.Subscript (.Name x p1) (.Slice (some lo) (some hi) none p3) p2] e pos :: rest) P := rb_cons (
  rs_of (t := tAsg (wE S e) (gSubSl (tVar i) (wE S lo) (wE S hi))) (fun X hX => ps_asg (wE_pe hX) (pg_subSl (pe_var (by rw [hX.N]; exact hN.get) (by rw [hX.sc]; exact hv) hd hcd) (wE_pe hX) (wE_pe hX) (ha X)) (hs X) (hw X) (h1 X)) fun C τ vs σ H D k l nvt m => h C τ vs σ H k l (fun _ => nvt) _ (fun r ρ1 y H1 z k1 => by
    obtain ⟨es, ds0, rfl, hr0, hi⟩ := z
    obtain ⟨v, ev, k2⟩ := k1.alias (i := τ.length + i + 1) (s := .ow ds0) (by rw [List.getElem?_cons_succ]; exact off_get hr0) (by intro z; cases z)
    rw [List.getElem?_cons_succ] at ev
    have ev' := ev
    rw [l, List.getElem?_append_right (Nat.le_add_right _ _), Nat.add_sub_cancel_left] at ev
    refine ⟨v, ev, hi C (_ :: _ :: τ) (some v :: some y :: vs) σ H1 k2 (congrArg (· + 2) l) (fun z => nomatch z) _ (fun s ρ2 w2 H2 z2 k3 => ?_) (XH.cons (XH.cons (fun c cv ρ' H' x hm k => m.ex c cv ρ' σ H' x hm k)))⟩
    obtain ⟨a, rfl, z2⟩ := z2
    refine z2 C (_ :: _ :: _ :: τ) (some w2 :: some v :: some y :: vs) σ H2 k3 (congrArg (· + 3) l) (fun z => nomatch z) _ (fun s ρ3 w3 H3 z3 k4 => ?_) (XH.cons (XH.cons (XH.cons (fun c cv ρ' H' x hm k => m.ex c cv ρ' σ H' x hm k))))
    obtain ⟨b, rfl, ds, hr, h0, hab, hb, hz, nv, q⟩ := z3
    have e4 := k4.int
    subst e4
    have e3 := k4.tail.int
    subst e3
    have k5 : Ok S.K C (.ow es :: (τ ++ ρ3)) (some y :: (vs ++ σ)) H3 := k4.tail.tail.tail
    obtain ⟨B, G, fp, k6⟩ := k5
    obtain ⟨f1, g1, ef, ⟨c, zs, e5, hf1, _, hc, hd2⟩, k7⟩ := k6.tail
    cases e5
    obtain ⟨o8, f8, e8, ⟨p8, xs8, e9, hf8, _, hp8, _⟩, hsub⟩ := k7.sls.get (off_get (τ := τ) hr)
    obtain ⟨p, xs, e1, hp, hd, fin⟩ := k7.change (nv_all nvt nv) (off_get (τ := τ) hr)
    have hne : p ≠ c := fun e => by
      rw [e8, e9] at e1
      have e10 : p8 = p := by cases e1; rfl
      have nd := k6.nd
      rw [ef] at nd
      have dj := (List.nodup_append.mp nd).2.2
      refine dj c (by rw [hf1]; simp) p (hsub p (by rw [hf8, e10]; simp)) e.symm
    rw [e1] at ev'
    cases ev'
    refine ⟨p, c, xs, zs, a, b, rfl, rfl, rfl, rfl, hp, hc, hne, h0, hab, by rw [hd.len]; exact hb, Evl.sz_of (by rw [hd.len, hd2.len]; exact hz), m.nx _ σ _ q ?_⟩
    have k9 := fin (xs.take a.toNat ++ zs ++ xs.drop b.toNat) (ds.take a.toNat ++ es ++ ds.drop b.toNat) (((hd.take _).app hd2).app (hd.drop _))
    rw [off_set] at k9
    exact k9) (fun c cv ρ' H' x hm k => m.ex c cv ρ' σ H' x hm k))
end
end Kd

set_option Elab.async false
set_option linter.all false
set_option maxRecDepth 100000
/-! KfD: for k, (a, b) in enumerate(zip(t, u)); sorted(t) of a tuple of ints. -/
namespace Kd
open PySem PySem.Spec PyProof.Rows L2 RZ
open Evl (Ex ex_l ex_t ex_rd fresh_back)
def ItEz (K : PySem.W.Frag) (a b : Addr) : It :=
  ⟨fun i H => ∃ (xs ys : List V) (x y : V), SqT K H a xs ∧ SqT K H b ys ∧ xs[i]? = some x ∧ ys[i]? = some y,
    fun i H v H' => ∃ T0 T x y, v = .ref T ∧ H T0 = none ∧ H T = none ∧ T ≠ T0 ∧ H' = upd (upd H T0 (.tup [x, y])) T (.tup [.int (i : Nat), .ref T0]) ∧ (∀ xs, SqT K H a xs → xs[i]? = some x) ∧ ∀ ys, SqT K H b ys → ys[i]? = some y,
    fun i H => ∃ xs ys : List V, SqT K H a xs ∧ SqT K H b ys ∧ (xs.length ≤ i ∨ ys.length ≤ i)⟩
theorem turn_ez {P : Program} {w : World} {K : PySem.W.Frag} {elts : List Expr} {kk : Nat} {tpos : Pos} {a b e z TI TO i1 i2 : Addr} (D : ZipApart z TI TO i1 i2 a b) (ne : e ≠ z ∧ e ≠ TI ∧ e ≠ TO ∧ e ≠ i1 ∧ e ≠ i2) :
    Turn P w K (.Tuple elts kk tpos) (ItEz K a b) [e, z, TI, TO, i1, i2] e (fun i h => (∃ old, IsEnum h e z ((i : Nat) : Int) old) ∧ IsZp h z TI TO ∧ IsPair h TI (.ref i1) (.ref i2) ∧ (∃ x y, IsPair h TO x y) ∧ h.IsTupleIter i1 a i ∧ h.IsTupleIter i2 b i) where
  mem := List.mem_cons_self
  obj := fun i h st c hc => by
    obtain ⟨⟨old, he⟩, ⟨m, f, hz, _⟩, hTI, ⟨x, y, hTO⟩, ⟨o1, e1, _, d1⟩, ⟨o2, e2, _, d2⟩⟩ := st
    have e' : c = e ∨ c = z ∨ c = TI ∨ c = TO ∨ c = i1 ∨ c = i2 := by simpa using hc
    rcases e' with q | q | q | q | q | q <;> subst q
    · exact ⟨_, he, fun v q => nomatch q⟩
    · exact ⟨_, hz, fun v q => nomatch q⟩
    · exact ⟨_, hTI, fun v q => nomatch q⟩
    · exact ⟨_, hTO, fun v q => nomatch q⟩
    · exact ⟨o1, e1, fun v q => by rw [d1] at q; cases q⟩
    · exact ⟨o2, e2, fun v q => by rw [d2] at q; cases q⟩
  keep := fun i h h' st k => by
    obtain ⟨⟨old, he⟩, ⟨m, f, hz, hm⟩, hTI, ⟨x, y, hTO⟩, h1, h2⟩ := st
    exact ⟨⟨old, k e (by simp) _ he⟩, ⟨m, f, k z (by simp) _ hz, hm⟩, k TI (by simp) _ hTI, ⟨x, y, k TO (by simp) _ hTO⟩, h1.at fun o q => k i1 (by simp) o q, h2.at fun o q => k i2 (by simp) o q⟩
  item := by
    intro X hP hw hK hc i pins s σ H E I hf st hg
    subst hP hw hK
    obtain ⟨⟨old, he⟩, hz, hTI, hTO, h1, h2⟩ := st
    obtain ⟨xs, ys, x, y, hqx, hqy, hx, hy⟩ := hg
    obtain ⟨its, rv, p, _⟩ := I.tuple hqx
    obtain ⟨its2, rv2, p2, _⟩ := I.tuple hqy
    obtain ⟨u, hu, ru⟩ := rv.get hx
    obtain ⟨u2, hu2, ru2⟩ := rv2.get hy
    have lt6 : ∀ c ∈ [e, z, TI, TO, i1, i2], c < s.heap.objs.size := fun c hcm => by
      obtain ⟨m, f, hz, _⟩ := hz
      obtain ⟨_, _, hTO⟩ := hTO
      have e' : c = e ∨ c = z ∨ c = TI ∨ c = TO ∨ c = i1 ∨ c = i2 := by simpa using hcm
      rcases e' with q | q | q | q | q | q <;> subst q
      · exact Heap.lt_size he
      · exact Heap.lt_size hz
      · exact Heap.lt_size hTI
      · exact Heap.lt_size hTO
      · obtain ⟨_, e1, _⟩ := h1; exact Heap.lt_size e1
      · obtain ⟨_, e2, _⟩ := h2; exact Heap.lt_size e2
    refine ez_next D ne he hz hTI hTO h1 h2 p p2 (x := u) (y := u2) (by simpa using hu) (by simpa using hu2) fun g1 tk r1 z1 TI1 TO1 j1 j2 P0 P1 sz kp => ?_
    refine ⟨_, rfl, wpAny_letOwnedTupleGo_enum (s := { s with heap := g1, toks := tk + 1 }) r1 fun g2 r2 sb => ?_⟩
    have le := lt6 e (by simp)
    have sb1 : ∀ c o, c ≠ e → g1.get? c = some o → g2.get? c = some o := fun c o nc q => (sb.2 c nc).trans q
    have Q0 : IsPair g2 s.heap.objs.size u u2 := sb1 _ _ (Nat.ne_of_gt le) P0
    have Q1 : IsPair g2 (s.heap.objs.size + 1) (.int i tk) (.ref s.heap.objs.size) := sb1 _ _ (Nat.ne_of_gt (Nat.lt_succ_of_lt le)) P1
    have n0 : H s.heap.objs.size = none := I.hok.fresh (Nat.le_refl _)
    have n1 : H (s.heap.objs.size + 1) = none := I.hok.fresh (Nat.le_succ _)
    have new0 : ObjOk X.prog X.w (upd H s.heap.objs.size (.tup [x, y])) (s.heap.push { cls := .type "tuple", data := .seq #[u, u2] }) s.heap.objs.size (.tup [x, y]) :=
      ⟨by show 2 ≤ sizeLine; decide, [u, u2], .cons ru (.cons ru2 .nil), ⟨_, Heap.get?_push_size _ rfl, rfl, _, rfl⟩⟩
    have I0 : Inv X pins σ (upd H s.heap.objs.size (.tup [x, y])) { s with heap := s.heap.push { cls := .type "tuple", data := .seq #[u, u2] } } :=
      I.laid (t' := s.toks) (fun b ob q => Heap.get?_push_of_some _ q) (Nat.le_refl _) new0
    have hf0 : ∀ c ∈ [e, z, TI, TO, i1, i2], FpOk X pins (upd H s.heap.objs.size (.tup [x, y])) c := fun c hcm => by
      obtain ⟨f1, f2⟩ := hf c hcm
      exact ⟨by rw [upd_ne (Nat.ne_of_lt (lt6 c hcm))]; exact f1, f2⟩
    have new1 : ObjOk X.prog X.w (upd (upd H s.heap.objs.size (.tup [x, y])) (s.heap.objs.size + 1) (.tup [.int (i : Nat), .ref s.heap.objs.size])) g2 (s.heap.objs.size + 1) (.tup [.int (i : Nat), .ref s.heap.objs.size]) :=
      ⟨by show 2 ≤ sizeLine; decide, [.int i tk, .ref s.heap.objs.size], .cons ⟨_, rfl⟩ (.cons rfl .nil), ⟨_, Q1, rfl, _, rfl⟩⟩
    have I1 : Inv X pins σ (upd (upd H s.heap.objs.size (.tup [x, y])) (s.heap.objs.size + 1) (.tup [.int (i : Nat), .ref s.heap.objs.size])) { s with heap := g2, toks := tk + 1 } :=
      I0.turnedNew (t' := tk + 1) (ch := [e, z, TI, TO, i1, i2]) (fun c o hb q => by
        rcases Heap.get?_push_cases q with ⟨rfl, rfl⟩ | q
        · exact Q0
        · exact sb1 c o (fun q' => hb (by simp [q'])) (kp c o (fun q' => hb (by simp [q'])) (fun q' => hb (by simp [q'])) (fun q' => hb (by simp [q'])) (fun q' => hb (by simp [q'])) (fun q' => hb (by simp [q'])) q)) hf0 (by show (s.heap.push _).objs.size ≤ _; rw [Heap.size_push]; exact Nat.le_refl _) new1
    obtain ⟨m, f, z1, hm⟩ := z1
    obtain ⟨c1, c2, TO1⟩ := TO1
    refine ⟨.ref (s.heap.objs.size + 1), _, I1, rfl, ⟨s.heap.objs.size, s.heap.objs.size + 1, x, y, rfl, n0, n1, Nat.succ_ne_self _, rfl, fun l hl => by rw [I.tuple_inj hl hqx]; exact hx, fun l hl => by rw [I.tuple_inj hl hqy]; exact hy⟩,
      ⟨⟨_, by rw [Int.natCast_add]; exact r2⟩, ⟨m, f, sb1 _ _ ne.1.symm z1, hm⟩, sb1 _ _ ne.2.1.symm TI1, ⟨c1, c2, sb1 _ _ ne.2.2.1.symm TO1⟩, j1.at fun o q => sb1 _ o ne.2.2.2.1.symm q, j2.at fun o q => sb1 _ o ne.2.2.2.2.symm q⟩, fun c hcm => ?_⟩
    have hlt := lt6 c hcm
    rw [upd_ne (Nat.ne_of_lt (Nat.lt_succ_of_lt hlt)), upd_ne (Nat.ne_of_lt hlt)]
    exact (hf c hcm).1
  done := by
    intro X hP hw hK hc i pins s σ H E I hf st hg
    subst hP hw hK
    obtain ⟨⟨old, he⟩, hz, hTI, hTO, h1, h2⟩ := st
    obtain ⟨xs, ys, hqx, hqy, hend⟩ := hg
    obtain ⟨its, rv, p, _⟩ := I.tuple hqx
    obtain ⟨its2, rv2, p2, _⟩ := I.tuple hqy
    have l1 := rv.length
    have l2 := rv2.length
    have he2 : its.toArray[i]? = none ∨ its2.toArray[i]? = none := by
      rcases hend with q | q
      · exact .inl (by simp; omega)
      · exact .inr (by simp; omega)
    exact ez_end (I.ok.hd hc) D he hz hTI hTO h1 h2 p p2 he2 fun h' hk => ⟨rfl, I.turnedL (t' := s.toks) (ch := [e, z, TI, TO, i1, i2]) (fun c o hb q =>
      hk c o (fun q' => hb (by simp [q'])) (fun q' => hb (by simp [q'])) (fun q' => hb (by simp [q'])) (fun q' => hb (by simp [q'])) q) hf⟩
  self := fun A i s Q E ⟨⟨_, he⟩, _⟩ h => wpAny_pyIter_enum he h
def iEz (K : PySem.W.Frag) (ta : TA) : TI := fun σ H R => ta σ H fun vs H1 => ∃ a b xs ys, vs = [.ref a, .ref b] ∧ SqT K H1 a xs ∧ SqT K H1 b ys ∧ R (ItEz K a b) H1
theorem pi_ez {X : Cx} {e e2 : Expr} {ta : TA} {p q pos pos2 tpos : Pos} {elts : List Expr} {kk : Nat} (hg : Gl X "enumerate") (hm : X.mg "enumerate" = none) (hg2 : Gl X "zip") (hm2 : X.mg "zip" = none) (ha : PA X [e, e2] ta)
    (hs : starEach [e, e2] X.env = (false, eval e X.env) :: starEach [e2] X.env) (hpl : (backTo pos2 (starEach [e2] X.env)).any (·.1) = false)
    (hs2 : starEach [.Call (.Name "zip" q) [e, e2] [] pos2] X.env = [(false, eval (.Call (.Name "zip" q) [e, e2] [] pos2) X.env)]) :
    PI X (.Tuple elts kk tpos) (.Call (.Name "enumerate" p) [.Call (.Name "zip" q) [e, e2] [] pos2] [] pos) (iEz X.K ta) := by
  refine ⟨fun pins s σ H R I h => Call_ (ld_blt I hg hm boot_enumerate (PyProof.Rows.callWith_type1 ?_ hs2 rfl))⟩
  rw [hs2]
  show wpAny _ _ (spliced [(false, eval (.Call (.Name "zip" q) [e, e2] [] pos2) X.env)]) _ _ s
  refine Calls.spliced_cons (Call_ (ld_blt I hg2 hm2 PyProof.Rows.boot_zip (PyProof.Rows.callWith_type1 (thn (ha.run pos2 pins s σ H _ I h) fun us s1 ⟨vs, H1, I1, r1, q1⟩ => ?_) hs hpl)))
  obtain ⟨a, b, xs, ys, ex, hqx, hqy, qq⟩ := q1
  subst ex
  cases r1 with
  | cons r rr =>
    cases rr with
    | cons r' rr =>
      cases rr
      cases r
      cases r'
      obtain ⟨its, rv, p1, _⟩ := I1.tuple hqx
      obtain ⟨its2, rv2, p2, _⟩ := I1.tuple hqy
      obtain ⟨o1, ho1, _⟩ := id p1
      obtain ⟨o2, ho2, _⟩ := id p2
      refine call_zipT (show s1.heap.IsTuple a its.toArray from p1) (show s1.heap.IsTuple b its2.toArray from p2) fun h' hz hTI hTO h1 h2 hsz hk => ?_
      refine Calls.spliced_nil (call_ez (s := { s1 with heap := h' }) hz fun g he gsz gk => wpAny_pyIter_enum he ?_)
      have D := PySem.W.ktu_apart s1.heap.objs.size a b (Heap.lt_size ho1) (Heap.lt_size ho2)
      have I2 : Inv X pins σ H1 { s1 with heap := g } := I1.kept (t' := s1.toks) fun b o y => gk b o (hk b o y)
      have ee : h'.objs.size = s1.heap.objs.size + 5 := hsz
      have he' : IsEnum g (s1.heap.objs.size + 5) (s1.heap.objs.size + 4) 0 .none := by rw [← ee]; exact he
      refine ⟨s1.heap.objs.size + 5, [s1.heap.objs.size + 5, s1.heap.objs.size + 4, s1.heap.objs.size + 2, s1.heap.objs.size + 3, s1.heap.objs.size, s1.heap.objs.size + 1], _, _, H1, congrArg Value.ref ee, I2, turn_ez D ?_, ⟨⟨_, he'⟩, ⟨_, _, gk _ _ hz, .inl rfl⟩, gk _ _ hTI, ⟨_, _, gk _ _ hTO⟩, h1.at fun o y => gk _ _ y, h2.at fun o y => gk _ _ y⟩, fun c hcm => ?_, qq⟩
      · refine ⟨?_, ?_, ?_, ?_, ?_⟩ <;> exact Nat.ne_of_gt (by omega)
      · have le : s1.heap.objs.size ≤ c := by
          simp only [List.mem_cons, List.not_mem_nil, or_false] at hcm
          rcases hcm with y | y | y | y | y | y <;> (rw [y]; first | exact Nat.le_add_right _ _ | exact Nat.le_refl _)
        exact I1.fpOk le (I1.hok.fresh le)
section
variable {S : Sh} {ρ : List Sl} {e e2 : Expr} {pos pos2 : Pos} {α β : Type}
theorem iw_ez {elts : List Expr} {kk : Nat} {tpos p p2 : Pos} {ds es : List PyData} (hm : S.mg "enumerate" = none) (hm2 : S.mg "zip" = none) (ha : VE S ρ e (.im (.tuple ds))) (hb : VE S ρ e2 (.im (.tuple es))) (hg : S.sc.names.lookup ("enumerate" : Str) = some .globalImplicit := by rfl) (hg2 : S.sc.names.lookup ("zip" : Str) = some .globalImplicit := by rfl)
    (hse : ∀ X : Cx, starEach [e, e2] X.env = (false, eval e X.env) :: starEach [e2] X.env := by intro _; rfl) (hse2 : ∀ X : Cx, starEach [e2] X.env = (false, eval e2 X.env) :: starEach [] X.env := by intro _; rfl) (hpl : ∀ X : Cx, (backTo pos2 (starEach [e2] X.env)).any (·.1) = false := by intro _; rfl)
    (hse3 : ∀ X : Cx, starEach [.Call (.Name "zip" p2) [e, e2] [] pos2] X.env = [(false, eval (.Call (.Name "zip" p2) [e, e2] [] pos2) X.env)] := by intro _; rfl) :
    IW S ρ (.Tuple elts kk tpos) (.Call (.Name "enumerate" p) [.Call (.Name "zip" p2) [e, e2] [] pos2] [] pos) (min ds.length es.length) (fun i => .tuple [.int (i : Nat), .tuple [ds.getD i .none, es.getD i .none]]) := fun C τ vs σ H k l R q =>
  ⟨iEz S.K (tCons (wE S e) (tCons (wE S e2) tNil)), fun X hX => by rw [← hX.K]; exact pi_ez (by show X.env.scope.names.lookup _ = _; rw [hX.sc]; exact hg) (by rw [hX.mg]; exact hm) (by show X.env.scope.names.lookup _ = _; rw [hX.sc]; exact hg2) (by rw [hX.mg]; exact hm2) (pa_cons (wE_pe hX) (pa_cons (wE_pe hX) pa_nil (hse2 X)) (hse X)) (hse X) (hpl X) (hse3 X), ha C τ vs σ H k l _ fun v H1 k1 => hb C (_ :: τ) (some v :: vs) σ H1 k1 (congrArg (· + 1) l) _ fun w H2 k2 => by
    obtain ⟨B, G, fp, k3, hd1, hd2⟩ := Ok.two k2
    cases hd1 with
    | @tup a xs _ hs hx =>
      cases hd2 with
      | @tup b ys _ ht hy =>
        refine ⟨a, b, xs, ys, rfl, ex_t k3.bh hs, ex_t k3.bh ht, q (ItEz S.K a b) H2 [_, _] [_, _] rfl (fun s hs => by simp at hs; rcases hs with hs | hs <;> (subst hs; rfl)) k2 fun i l os H2 k2 => ?_⟩
        obtain ⟨B, G, fp, k3, hd1, hd2⟩ := Ok.two k2
        cases hd1 with
        | @tup _ xs _ hs hx =>
          cases hd2 with
          | @tup _ ys _ ht hy =>
            have hs2 := ex_t k3.bh hs
            have ht2 := ex_t k3.bh ht
            have l1 := hx.len
            have l2 := hy.len
            refine ⟨fun hi => ⟨⟨xs, ys, xs[i]'(by omega), ys[i]'(by omega), hs2, ht2, List.getElem?_eq_getElem _, List.getElem?_eq_getElem _⟩, fun z H3 y => ?_⟩, fun hi => ⟨xs, ys, hs2, ht2, by omega⟩⟩
            obtain ⟨T0, T, x, y, rfl, h0, hT, hne, rfl, y1, y2⟩ := y
            obtain ⟨d1, h1, h1'⟩ := hx.getV (y1 xs hs2)
            obtain ⟨d2, h2, h2'⟩ := hy.getV (y2 ys ht2)
            dsimp only
            rw [getD_some h1, getD_some h2]
            obtain ⟨B', G', fp', k4, hd⟩ := (k3.pair h0 h1' h2').head
            exact k4.pair (by rw [upd_ne hne]; exact hT) (.int _) hd⟩
theorem ix_ez {elts : List Expr} {kk : Nat} {tpos p p2 : Pos} {xs : List α} {ys : List β} {f : α → PyData} {g : β → PyData} (hm : S.mg "enumerate" = none) (hm2 : S.mg "zip" = none) (ha : VE S ρ e (.im (.tuple (xs.map f)))) (hb : VE S ρ e2 (.im (.tuple (ys.map g)))) (hg : S.sc.names.lookup ("enumerate" : Str) = some .globalImplicit := by rfl) (hg2 : S.sc.names.lookup ("zip" : Str) = some .globalImplicit := by rfl)
    (hse : ∀ X : Cx, starEach [e, e2] X.env = (false, eval e X.env) :: starEach [e2] X.env := by intro _; rfl) (hse2 : ∀ X : Cx, starEach [e2] X.env = (false, eval e2 X.env) :: starEach [] X.env := by intro _; rfl) (hpl : ∀ X : Cx, (backTo pos2 (starEach [e2] X.env)).any (·.1) = false := by intro _; rfl)
    (hse3 : ∀ X : Cx, starEach [.Call (.Name "zip" p2) [e, e2] [] pos2] X.env = [(false, eval (.Call (.Name "zip" p2) [e, e2] [] pos2) X.env)] := by intro _; rfl) :
    IX S ρ (.Tuple elts kk tpos) (.Call (.Name "enumerate" p) [.Call (.Name "zip" p2) [e, e2] [] pos2] [] pos) ((xs.zip ys).zipIdx.map fun q => PyData.tuple [.int (q.2 : Nat), .tuple [f q.1.1, g q.1.2]]) :=
  iw_eq (iw_ez hm hm2 ha hb hg hg2 hse hse2 hpl hse3) (by simp) fun i hi => by
    have h1 : i < xs.length := by simp at hi; omega
    have h2 : i < ys.length := by simp at hi; omega
    simp only [List.getD_eq_getElem?_getD, List.getElem?_map, List.getElem?_zipIdx, List.getElem?_eq_getElem h1, List.getElem?_eq_getElem h2]
    rw [show (xs.zip ys)[i]? = some (xs[i], ys[i]) from List.getElem?_zip_eq_some.mpr ⟨List.getElem?_eq_getElem h1, List.getElem?_eq_getElem h2⟩]
    simp
end
/-! ### sorted(t), t a tuple -/
section
variable {P : Program} {w : World} {A : Around} {E : Value → Shared → Prop} {s : Shared}
theorem collect_tup {a : Addr} {o : Obj} {its : Array Value} {n : Nat} {Q : List Value → Shared → Prop} (ho : s.heap.get? a = some o) (hc : o.cls = .type "tuple") (hd : o.data = .seq its n) (hz : its.size ≤ sizeLine)
    (hQ : ∀ g, (∀ b u, s.heap.get? b = some u → g.get? b = some u) → s.heap.objs.size ≤ g.objs.size → Q its.toList { s with heap := g }) : wpAny (model P w) A (collect (.ref a)) Q E s := by
  have pl : plainId "list.__iadd__" = true := PySem.F.plain_list_iadd
  unfold collect
  refine wpAny_bind (wpAny_runValue (codeAny_builtin PySem.F.entry_proto_collect ?_))
  rw [Around.under_plainId PySem.F.plain_proto_collect _]
  show wpAny _ A.in1 (newList [] >>= fun q => again (.builtin "list.__iadd__" ⟨[q, .ref a], []⟩)) _ _ s
  refine wpAny_bind (wpAny_newObj_type (wpAny_pure ⟨plainId_quiet pl _, codeAny_builtin PySem.F.entry_list_iadd ?_⟩))
  rw [Around.under_plainId pl _]
  show wpAny _ A.in1 (Builtin.List.listExtendWith (.ref s.heap.objs.size) (.ref a) (.ref s.heap.objs.size)) _ _ _
  have l0 : (s.heap.push { cls := .type "list", data := .seq ([] : List Value).toArray }).get? s.heap.objs.size = some { cls := .type "list", data := .seq #[] 0 } := Heap.get?_push_size _ rfl
  have l1 := Heap.get?_update_self (Obj.mapSeq (· ++ its)) l0 rfl
  refine wpAny_mono (wpAny_extend_seq (hsz := hz) (A := A) (R := fun r t => r = .ok (.ret (.ref s.heap.objs.size)) ∧ t = { s with heap := (s.heap.push { cls := .type "list", data := .seq ([] : List Value).toArray }).update s.heap.objs.size (Obj.mapSeq (· ++ its)) })
    (s := { s with heap := s.heap.push { cls := .type "list", data := .seq ([] : List Value).toArray } }) _ a _ 0 (.inr rfl) l0 (Heap.get?_push_of_some _ ho) hc hd ⟨rfl, rfl⟩) (fun f t h => ?_) (fun e t h => absurd h.1 (by simp))
  have fin : wpAny (model P w) A (match Value.ref s.heap.objs.size with
      | Value.ref b => do
        match (← load b).data with
          | Data.seq ys _ => pure ys.toList
          | _ => unsupported "internal:collect"
      | _ => unsupported "internal:collect") Q E { s with heap := (s.heap.push { cls := .type "list", data := .seq ([] : List Value).toArray }).update s.heap.objs.size (Obj.mapSeq (· ++ its)) } := by
    show wpAny _ A (load s.heap.objs.size >>= _) _ _ _
    refine wpAny_bind (wpAny_load l1 (wpAny_pure ?_))
    show Q ((#[] : Array Value) ++ its).toList _
    rw [show ((#[] : Array Value) ++ its).toList = its.toList by simp]
    exact hQ _ (fun b u hb => (Heap.get?_update_other _ _ (Nat.ne_of_gt (Heap.lt_size hb))).trans (Heap.get?_push_of_some _ hb)) (by rw [Heap.size_update, Heap.size_push]; exact Nat.le_succ _)
  cases f with
  | done r =>
    obtain ⟨e, rfl⟩ := h
    cases e
    exact fin
  | again c => exact ⟨h.1, codeAny_mono h.2 fun r t hr => by obtain ⟨rfl, rfl⟩ := hr; exact fin⟩
theorem sorted_tupI {a : Addr} {vs : List Value} {ns : List Int} {Q : Value → Shared → Prop} (ht : IsTup s.heap a vs.toArray) (hi : Vals (ns.map V.int) vs) (hL : ns.length ≤ 100000) (hu : A.units + 64 < cLine)
    (hQ : ∀ s' p (out : List Value) (c : Nat), (∀ b o, s.heap.get? b = some o → s'.heap.get? b = some o) → s'.gens = s.gens → s'.os = s.os → s.heap.objs.size ≤ p →
      s'.heap.get? p = some (seqObj "list" out.toArray c) → Vals ((srtI ns).map V.int) out → Q (.ref p) s') :
    wpAny (model P w) A (call (.builtin "sorted") [.ref a]) Q E s := by
  obtain ⟨o, ho, hc, n, hd⟩ := id ht
  have hlen := hi.length
  rw [List.length_map] at hlen
  refine Calls.call_function_entry kind_sorted plain_sorted entry_sorted (args_sorted1 _) ?_
  unfold Builtin.«sorted»
  refine wpAny_bind (m := checkCount "sorted" 1 1 _) (wpAny_pure (wpAny_bind (collect_tup ho hc hd (by rw [List.size_toArray, sizeLine_eq]; omega) (fun h1 k1 z1 => ?_))))
  refine wpAny_bind (wpAny_newList ?_ (by show vs.length ≤ _; rw [sizeLine_eq]; omega))
  have hoL : (h1.push (seqObj "list" vs.toArray 0)).get? h1.objs.size = some (seqObj "list" vs.toArray 0) := Heap.get?_push_size _ rfl
  have hE : ∀ {us : List Value} {ks : List Int}, Vals (ks.map V.int) us → PySem.W.EachIs (fun v (b : Int) => ∃ t, v = Value.int b t) us ks := by
    intro us ks
    induction ks generalizing us with
    | nil => intro h; cases h; exact .nil
    | cons k ks ih =>
      intro h
      rw [List.map_cons] at h
      cases h with
      | cons r t =>
        obtain ⟨x, rfl⟩ := r
        exact .cons ⟨x, rfl⟩ (ih t)
  refine wpAny_bind (wpAny_holding (PySem.W.list_sort_data (enc := PyData.int) (bs := ns) hoL (hE hi) ?_ (PySem.W.AllAlike.of fun _ _ => rfl) (PySem.W.Sortable.others fun _ => ⟨fun z => (nomatch z), fun _ z => (nomatch z)⟩) (by rw [sizeLine_eq]; omega) (fun b _ => ?_) fun out hol hO => ?_))
  · exact (hE hi).mono fun v b ⟨t, e⟩ => ⟨[], by rw [e]; exact .int b t, fun z => nomatch z⟩
  · show A.in1.units + 1 + PyData.depth (.int b) < cLine
    simp only [PyData.depth]
    have : A.in1.units ≤ A.units + 1 := by first | exact Nat.le_refl _ | exact Nat.le_succ _ | simp
    omega
  · obtain ⟨c, hc2⟩ := sortedHeap_at (vs := vs) (out := out.toArray) hoL
    rw [PySem.W.dataLe_int (fun b => b)] at hO
    refine wpAny_pure ⟨_, rfl, hQ _ h1.objs.size out c (fun b u e => ?_) rfl rfl ?_ hc2 ?_⟩
    · have q := k1 b u e
      have hlt := Heap.lt_size q
      show (sortedHeap (h1.push (seqObj "list" vs.toArray 0)) h1.objs.size vs out.toArray).get? b = some u
      rw [sortedHeap_old (Nat.ne_of_lt hlt) (by rw [size_push']; exact Nat.lt_succ_of_lt hlt)]
      exact Heap.get?_push_of_some _ q
    · exact z1
    · have key : ∀ {us : List Value} {ks : List Int}, PySem.W.EachIs (fun v (b : Int) => ∃ t, v = Value.int b t) us ks → Vals (ks.map V.int) us := by
        intro us ks h
        induction h with
        | nil => exact .nil
        | cons r _ ih => exact .cons r ih
      exact key hO
end
def rSortedTI (K : PySem.W.Frag) : List V → Hp → VK → Prop := fun vs H Q => ∃ (a : Addr) (ns : List Int), vs = [V.ref a] ∧ SqT K H a (ns.map V.int) ∧ ns.length ≤ 100000 ∧ ∀ p : Addr, H p = none → Q (.ref p) (upd H p (.lst ((srtI ns).map V.int)))
theorem cr_sortedTI {X : Cx} (hu : X.A.units + 64 < cLine) : CallR X (.builtin "sorted") (rSortedTI X.K) := by
  intro pins s σ H vs us Q I r h
  obtain ⟨a, ns, rfl, ha, hL, q⟩ := h
  rw [Vals.ref1 r]
  obtain ⟨its, rv, ht, hz⟩ := I.tuple ha
  refine sorted_tupI ht rv hL hu fun s' p out c k g o hp hg hi => ?_
  have hlen : ((srtI ns).map V.int).length ≤ sizeLine := by
    rw [List.length_map, show (srtI ns).length = ns.length from (List.mergeSort_perm ns _).length_eq, sizeLine_eq]
    omega
  have hn : H p = none := I.hok.fresh hp
  have J : Inv X pins σ (upd H p (.lst ((srtI ns).map V.int))) { s with heap := s'.heap, gens := s'.gens, drawn := s'.drawn, toks := s'.toks } :=
    I.call (ch := []) (Un.laid k hp hn) (I.hok.laid k hp ⟨hlen, out, c, hi, hg⟩) (by rw [g]; exact I.bare) (fun _ z => nomatch z)
  have e : s' = { s with heap := s'.heap, gens := s'.gens, drawn := s'.drawn, toks := s'.toks } := by
    cases s'
    cases s
    cases o
    rfl
  rw [e]
  exact ⟨.ref p, _, J, rfl, q p hn⟩
/-- sorted(t) of a tuple of ints -/
theorem cd_srtTI {S : Sh} {ns : List Int} (hL : ns.length ≤ 100000) : CD S (.builtin "sorted") [.im (.tuple (ns.map .int))] (.ow ((srtI ns).map .int)) :=
  cd_of1 (r := rSortedTI S.K) (fun X hX => by rw [← hX.K]; exact cr_sortedTI hX.room.units) fun C l os v H k Q q => by
    obtain ⟨B, G, fp, k2, hd⟩ := k.head
    cases hd with
    | @tup a xs _ hs hx =>
      have e := DtA.ints hx
      subst e
      exact ⟨a, ns, rfl, ex_t k2.bh hs, hL, fun p hp => q _ _ (k2.putOwn hp (DtA.ofInts _))⟩
/-! ### sum(t), t a tuple -/
def rSumTI (K : PySem.W.Frag) : List V → Hp → VK → Prop := fun vs H Q => ∃ (a : Addr) (ns : List Int), vs = [V.ref a] ∧ SqT K H a (ns.map V.int) ∧ Q (.int ns.sum) H
theorem cr_sumTI {X : Cx} (hc : X.calm = true) : CallR X (.builtin "sum") (rSumTI X.K) := by
  intro pins s σ H vs us Q I r h
  obtain ⟨a, ns, rfl, ha, q⟩ := h
  rw [Vals.ref1 r]
  obtain ⟨its, rv, ht, hz⟩ := I.tuple ha
  have hi := rv.ints
  obtain ⟨xs, e⟩ := hi.allInts.items
  have hn := hi.numsOf
  rw [show its = (intItems xs).toList by rw [← e]] at hn
  rw [nums_intItems] at hn
  have ht2 : s.heap.IsTuple a (intItems xs) := by rw [← e]; exact ht
  refine PySem.W.ktm_sumG (I.ok.hd hc) ht2 fun g tk t hk => ?_
  rw [preSum_eq, List.take_of_length_le (by simp), hn]
  exact ⟨.int _, H, I.kept hk, ⟨_, rfl⟩, q⟩
theorem cd_sumTI {S : Sh} {ns : List Int} : CD S (.builtin "sum") [.im (.tuple (ns.map .int))] (.im (.int ns.sum)) :=
  cd_of1 (r := rSumTI S.K) (fun X hX => by rw [← hX.K]; exact cr_sumTI hX.calm) fun C l os v H k Q q => by
    obtain ⟨B, G, fp, k2, hd⟩ := k.head
    cases hd with
    | @tup a xs _ hs hx =>
      have e := DtA.ints hx
      subst e
      exact ⟨a, ns, rfl, ex_t k2.bh hs, q _ _ (k2.put (.int _))⟩
end Kd

set_option Elab.async false
set_option linter.all false
set_option maxRecDepth 100000
/-! KfE: x.extend(e), e a list or tuple of the base. -/
namespace Kd
open PySem PySem.Spec PyProof.Rows L2
open Evl (Ex ex_l ex_t ex_rd fresh_back)
theorem meets_extB (l b : Addr) (its its2 : Array Value) (n n2 : Nat) (o2 : Obj) {T : String} (hT : T = "list" ∨ T = "tuple") (hc : o2.cls = .type T) (hd : o2.data = .seq its2 n2) (hz : its.size + its2.size ≤ sizeLine) :
    Meets (Builtin.«list.extend» ⟨[.ref l, .ref b], []⟩) (fun _ R s => s.heap.get? l = some { cls := .type "list", dict := none, data := .seq its n, slots := #[] } ∧ s.heap.get? b = some o2 ∧ R (.ok (.ret Value.none)) { s with heap := s.heap.update l (Obj.mapSeq fun x => x ++ its2), toks := s.toks }) :=
  .of_wp fun prog w A R s h => by
    obtain ⟨hl, hb, h⟩ := h
    show wpAny _ _ (Builtin.List.listExtendWith (.ref l) (.ref b) .none) _ _ _
    unfold Builtin.List.listExtendWith
    refine wpAny_bind (wpAny_typeOf ⟨o2, hb, hc⟩ ?_)
    have hk : (Builtin.List.listSameRef (.ref l) (.ref b) || Value.type T == Value.type "list" || Value.type T == Value.type "tuple") = true := by
      rcases hT with rfl | rfl <;> simp
    rw [if_pos hk]
    refine wpAny_bind ?_
    unfold Builtin.List.listItems
    refine wpAny_bind (wpAny_seqItems hb hd (wpAny_pure (wpAny_bind (wpAny_bind (wpAny_seqItems hl rfl (wpAny_pure ?_))))))
    have hlong : ¬ (!its.isEmpty && Builtin.List.listTooLong (its.size + its2.size)) = true := by
      rw [notLongL hz, Bool.and_false]
      exact Bool.false_ne_true
    rw [if_neg hlong]
    first
      | refine wpAny_bind (wpAny_pure ?_)
      | skip
    show wpAny _ _ (updateSeq l (· ++ its2) >>= fun _ => ret .none) _ _ s
    exact wpAny_bind (wpAny_updateSeq (hz := Nat.le_trans (Nat.le_add_right _ _) hz) (_hz' := by rw [Array.size_append]; exact Nat.le_succ_of_le hz) hl rfl (wpAny_pure ⟨_, rfl, h⟩))
def rExtB (K : PySem.W.Frag) : V → List V → Hp → VK → Prop := fun x vs H Q => ∃ l b xs zs, x = .ref l ∧ vs = [.ref b] ∧ H l = some (.lst xs) ∧ (SqL K H b zs ∨ SqT K H b zs) ∧ xs.length + zs.length ≤ sizeLine ∧ Q .non (upd H l (.lst (xs ++ zs)))
theorem mt_extB {X : Cx} : MtM X "list.extend" (rExtB X.K) := by
  intro pins s σ H x vs v us Q I rx rv h
  obtain ⟨l, b, xs, zs, rfl, rfl, hH, hB, hz, q⟩ := h
  cases rx
  obtain ⟨u, rfl, ru⟩ := rv.one
  cases ru
  obtain ⟨z, its, n, r, hl, e⟩ := I.lstM hH
  have fin : ∀ (its2 : List Value) (o2 : Obj) (n2 : Nat) (T : String), Vals zs its2 → s.heap.get? b = some o2 → (T = "list" ∨ T = "tuple") → o2.cls = .type T → o2.data = .seq its2.toArray n2 → wpAny (model X.prog X.w) X.A (call (.builtin "list.extend") [.ref l, .ref b]) (EP X pins σ Q) X.xe s := fun its2 o2 n2 T r2 h2 hT hc hd => by
    have l1 := r.length
    have l2 := r2.length
    refine call_meets PySem.F.slot_list_extend ⟨_, e, rfl⟩ PySem.F.entry_list_extend (PySem.F.args_list_extend_2 _ _)
      (meets_extB l b its.toArray its2.toArray n n2 o2 hT hc hd (by rw [List.size_toArray, List.size_toArray]; omega)) ⟨e, h2, ?_⟩
    refine ⟨.non, _, I.lset (its' := its ++ its2) hH e (by simp) (r.append r2) ?_, rfl, q⟩
    rw [List.length_append]
    omega
  rcases hB with hB | hB
  · obtain ⟨its2, r2, ⟨o2, n2, h2, hc, hdn, hd⟩, _⟩ := I.list hB
    exact fin its2 o2 n2 "list" r2 h2 (.inl rfl) hc hd
  · obtain ⟨its2, r2, ⟨o2, h2, hc, n2, hd⟩, _⟩ := I.tuple hB
    exact fin its2 o2 n2 "tuple" r2 h2 (.inr rfl) hc hd
/-- x.extend(e), e data: a list or a tuple -/
theorem rc_extB {S : Sh} {ρ : List Sl} {e : Expr} {rest : List Stmt} {pos : Pos} {P : Pst} {x : Str} {i : Nat} {ds0 : List PyData} {p1 p2 p3 : Pos} (hN : Ix S.N i x) (hr0 : ρ[i]? = some (.ow ds0)) (hv : Vis S.sc x) (h : CE S true ρ e P.ex fun r ρ1 => ∃ es ds, (r = .im (.list es) ∨ r = .im (.tuple es)) ∧ ρ1[i]? = some (.ow ds) ∧ ds.length + es.length ≤ 100000 ∧ ρ1.all noV = true ∧ RB S (ρ1.set i (.ow (ds ++ es))) rest P)
    (hd : (x == ("__debug__" : Str)) = false := by decide) (hcd : (x == ("__classdict__" : Str)) = false := by decide)
    (hfew : ∀ X : Cx, ((backTo p3 (starEach [e] X.env)).all (fun x => !x.1) && (backToKw p3 (keywordEach [] X.env)).all (fun x => x.1.isSome) && decide ([e].length + ([] : List Keyword).length + (if ([] : List Keyword).isEmpty then 0 else 1) < 30)) = true := by intro _; rfl)
    (hline : (p2.endLine == p3.line) = true := by rfl) (hse : ∀ X : Cx, starEach [e] X.env = (false, eval e X.env) :: starEach [] X.env := by intro _; rfl)
    (hs : ∀ X : Cx, swapsWith (.Call (.Attribute (.Name x p1) "extend" p2) [e] [] p3) none pos.line X.env = pure false := by intro _; rfl) : RB S ρ (.Expr (.Call (.Attribute (.Name x p1) "extend" p2) [e] [] p3) pos :: rest) P := rb_cons (
  rs_of (t := tDrop (tBM S.K "list" (rExtB S.K) (tVar i) (tCons (wE S e) tNil))) (fun X hX => ps_expr (by
      rw [← hX.K]
      exact pe_bm PySem.F.plainAttrs_list PySem.F.slot_list_extend PySem.F.type_list_extend mt_extB (pe_var (by rw [hX.N]; exact hN.get) (by rw [hX.sc]; exact hv) hd hcd) (pa_cons (wE_pe hX) pa_nil (hse X)) rfl (hfew X) hline (hse X) rfl) (hs X)) fun C τ vs σ H D k l nvt m => by
    obtain ⟨v, ev, k1⟩ := k.alias (off_get (τ := τ) hr0) (by intro z; cases z)
    rw [l, List.getElem?_append_right (Nat.le_add_right _ _), Nat.add_sub_cancel_left] at ev
    refine ⟨v, ev, ?_, h C τ vs σ H k l (fun _ => nvt) _ (fun r ρ1 y H1 z k2 => ?_) (fun c cv ρ' H' x hm k => m.ex c cv ρ' σ H' x hm k)⟩
    · have kd := k1.dt (d := .list ds0) rfl
      cases kd with
      | lst hs _ => exact .inl ⟨rfl, _, hs⟩
    · obtain ⟨es, ds, hr1, hr, hz, nv, q⟩ := z
      have key : ∃ B G fp b zs, OkB S.K C B G fp (τ ++ ρ1) (vs ++ σ) H1 ∧ y = .ref b ∧ (SqL S.K B b zs ∨ SqT S.K B b zs) ∧ DtA S.K B zs es := by
        rcases hr1 with rfl | rfl
        · obtain ⟨B, G, fp, k3, hd⟩ := k2.head
          cases hd with
          | lst h1 h2 => exact ⟨B, G, fp, _, _, k3, rfl, .inl h1, h2⟩
        · obtain ⟨B, G, fp, k3, hd⟩ := k2.head
          cases hd with
          | tup h1 h2 => exact ⟨B, G, fp, _, _, k3, rfl, .inr h1, h2⟩
      obtain ⟨B, G, fp, b, zs, k4, rfl, hb, hd2⟩ := key
      have bh := k4.bh
      obtain ⟨p, xs, e1, hp, hd, fin⟩ := k4.change (nv_all nvt nv) (off_get (τ := τ) hr)
      rw [l, List.getElem?_append_right (Nat.le_add_right _ _), Nat.add_sub_cancel_left, ev] at e1
      cases e1
      refine ⟨p, b, xs, zs, rfl, rfl, hp, hb.imp (ex_l bh) (ex_t bh), Evl.sz_of (by rw [hd.len, hd2.len]; exact hz), m.nx _ σ _ q ?_⟩
      have k6 := fin (xs ++ zs) (ds ++ es) (hd.app hd2)
      rw [off_set] at k6
      exact k6)
end Kd

set_option Elab.async false
set_option linter.all false
set_option maxRecDepth 100000
set_option maxHeartbeats 0
namespace Kl
open PySem L2 Kd
open Evl (Ex ex_l ex_t ex_rd fresh_back)
local macro_rules | `(tactic| walk_at "kd vis") => `(tactic| first | exact Or.inl rfl | exact Or.inr (Or.inl rfl) | exact Or.inr (Or.inr rfl))
local macro_rules | `(tactic| walk_at "kd loc") => `(tactic| first | exact Or.inl rfl | exact Or.inr rfl)
local macro_rules | `(tactic| walk_at "kd nd") => `(tactic| assumption)
local macro_rules | `(tactic| walk_at "kd lvl") => `(tactic| exact Nat.le_of_ble_eq_true rfl)
local macro_rules | `(tactic| walk_at "kd mark") => `(tactic| first | exact nomark _ | rfl)
local macro_rules | `(tactic| walk_at "kd blk") => `(tactic| exact blkOk_by (by kernel_rfl))
local macro_rules | `(tactic| walk_at "kd inc") => `(tactic| decide)
local macro_rules | `(tactic| walk_at "kd ar") => `(tactic| first | omega | decide | (simp; done) | (simp; omega))
local macro_rules | `(tactic| walk_at "kd ty") => `(tactic| first | exact kit_int _ | exact kit_bool _ | exact kit_tuple _ | exact kit_str _ | exact kit_list _ | exact kit_dict _)
local macro_rules | `(tactic| walk_at "kd od") => `(tactic| first | exact od_cmpI | exact od_add | exact od_sub | exact od_mulL (by walk_at "kd ar") | exact od_mulR (by walk_at "kd ar") | exact od_fdiv (by walk_at "kd ar") | exact od_mod (by walk_at "kd ar") | exact od_eqS | exact od_neS | exact od_isB | exact od_notB | exact od_isN rfl | exact od_notN rfl | exact od_neT | exact od_eqT | exact od_catT (by walk_at "kd ar"))
local macro_rules | `(tactic| walk_at "kd xd") => `(tactic| first | exact xd_tup rfl | exact xd_lst (.inl rfl) rfl | exact xd_lst (.inr (.inl rfl)) rfl | exact xd_lst (.inr (.inr rfl)) rfl)
local macro_rules | `(tactic| walk_at "kd sd") => `(tactic| first | exact sd_tup | exact sd_lst (.inl rfl) | exact sd_lst (.inr (.inl rfl)) | exact sd_lst (.inr (.inr rfl)) | exact sd_str (by walk_at "kd ar"))
local macro_rules | `(tactic| walk_at "kd cd") => `(tactic| first | exact cd_len rfl rfl (by walk_at "kd ar") | exact cd_abs | exact cd_max2 | exact cd_min2 | exact cd_allM rfl | exact cd_anyM rfl | exact cd_sumM rfl | exact cd_tuple (.inl rfl) | exact cd_tuple (.inr (.inl rfl)) | exact cd_tuple (.inr (.inr rfl)) | exact cd_list (.inl rfl) | exact cd_list (.inr (.inl rfl)) | exact cd_list (.inr (.inr (.inl rfl))) | exact cd_list (.inr (.inr (.inr rfl))))
local macro_rules | `(tactic| walk_at "gd") => `(tactic| first | exact gd_nm (by with_reducible (repeat (first | exact Ix.z | apply Ix.s))) (by assumption) (by first | exact Or.inl rfl | exact Or.inr rfl) | exact gd_tup (gds_cons (gd_nm (by with_reducible (repeat (first | exact Ix.z | apply Ix.s))) (by assumption) (by first | exact Or.inl rfl | exact Or.inr rfl)) (gds_cons (gd_nm (by with_reducible (repeat (first | exact Ix.z | apply Ix.s))) (by assumption) (by first | exact Or.inl rfl | exact Or.inr rfl)) gds_nil)) | exact gd_tup (gds_cons (gd_nm (by with_reducible (repeat (first | exact Ix.z | apply Ix.s))) (by assumption) (by first | exact Or.inl rfl | exact Or.inr rfl)) (gds_cons (gd_nm (by with_reducible (repeat (first | exact Ix.z | apply Ix.s))) (by assumption) (by first | exact Or.inl rfl | exact Or.inr rfl)) (gds_cons (gd_nm (by with_reducible (repeat (first | exact Ix.z | apply Ix.s))) (by assumption) (by first | exact Or.inl rfl | exact Or.inr rfl)) gds_nil))) | exact gd_tup (gds_cons (gd_nm (by with_reducible (repeat (first | exact Ix.z | apply Ix.s))) (by assumption) (by first | exact Or.inl rfl | exact Or.inr rfl)) (gds_cons (gd_tup (gds_cons (gd_nm (by with_reducible (repeat (first | exact Ix.z | apply Ix.s))) (by assumption) (by first | exact Or.inl rfl | exact Or.inr rfl)) (gds_cons (gd_nm (by with_reducible (repeat (first | exact Ix.z | apply Ix.s))) (by assumption) (by first | exact Or.inl rfl | exact Or.inr rfl)) gds_nil))) gds_nil)))
local macro_rules | `(tactic| walk_at "cb") => `(tactic| (refine cb (by first | exact gd_nm (by with_reducible (repeat (first | exact Ix.z | apply Ix.s))) (by assumption) (by first | exact Or.inl rfl | exact Or.inr rfl) | exact gd_tup (gds_cons (gd_nm (by with_reducible (repeat (first | exact Ix.z | apply Ix.s))) (by assumption) (by first | exact Or.inl rfl | exact Or.inr rfl)) (gds_cons (gd_nm (by with_reducible (repeat (first | exact Ix.z | apply Ix.s))) (by assumption) (by first | exact Or.inl rfl | exact Or.inr rfl)) gds_nil)) | exact gd_tup (gds_cons (gd_nm (by with_reducible (repeat (first | exact Ix.z | apply Ix.s))) (by assumption) (by first | exact Or.inl rfl | exact Or.inr rfl)) (gds_cons (gd_nm (by with_reducible (repeat (first | exact Ix.z | apply Ix.s))) (by assumption) (by first | exact Or.inl rfl | exact Or.inr rfl)) (gds_cons (gd_nm (by with_reducible (repeat (first | exact Ix.z | apply Ix.s))) (by assumption) (by first | exact Or.inl rfl | exact Or.inr rfl)) gds_nil))) | exact gd_tup (gds_cons (gd_nm (by with_reducible (repeat (first | exact Ix.z | apply Ix.s))) (by assumption) (by first | exact Or.inl rfl | exact Or.inr rfl)) (gds_cons (gd_tup (gds_cons (gd_nm (by with_reducible (repeat (first | exact Ix.z | apply Ix.s))) (by assumption) (by first | exact Or.inl rfl | exact Or.inr rfl)) (gds_cons (gd_nm (by with_reducible (repeat (first | exact Ix.z | apply Ix.s))) (by assumption) (by first | exact Or.inl rfl | exact Or.inr rfl)) gds_nil))) gds_nil))) (by decide) (by rfl) ?_; (try dsimp only [wipeS, List.map, List.set])))
local macro_rules | `(tactic| walk_at "fg") => `(tactic| ((try dsimp only [List.set]); repeat' first | exact Fg.nil | refine Fg.drop ?_ | refine Fg.keep rfl ?_ | refine Fg.keep ?_ ?_))

def topS (i : Nat) : Stmt := PySem.Challenge.pw_keptsounds_k23_whole_steps_again.main.body.getD i (.Pass ⟨0, 0, 0, 0⟩)
abbrev st_law_draw : Stmt := topS 28
theorem sc_law_draw : FnScope ["_law_script", "_law_town", "_law_many", "_law_one", "_law_at", "_law_mixed"] ["_law_script", "_law_town", "_law_many"] (defScope st_law_draw) := ⟨rfl, rfl, rfl, by decide +kernel, rfl, by decide +kernel, by decide +kernel⟩
abbrev st_law_pick : Stmt := topS 29
theorem sc_law_pick : FnScope ["_law_script", "_law_town", "_law_some"] ["_law_script", "_law_town", "_law_some"] (defScope st_law_pick) := ⟨rfl, rfl, rfl, by decide +kernel, rfl, by decide +kernel, by decide +kernel⟩
abbrev st_law_sound : Stmt := topS 30
theorem sc_law_sound : FnScope ["_law_script", "_law_town", "_law_top", "_law_great", "_law_k"] ["_law_script", "_law_town", "_law_top"] (defScope st_law_sound) := ⟨rfl, rfl, rfl, by decide +kernel, rfl, by decide +kernel, by decide +kernel⟩
abbrev st_is_whole : Stmt := topS 9
theorem sc_is_whole : FnScope ["thing", "least", "most"] ["thing", "least", "most"] (defScope st_is_whole) := ⟨rfl, rfl, rfl, by decide +kernel, rfl, by decide +kernel, by decide +kernel⟩
abbrev st_is_sound : Stmt := topS 10
theorem sc_is_sound : FnScope ["thing", "one"] ["thing"] (defScope st_is_sound) := ⟨rfl, rfl, rfl, by decide +kernel, rfl, by decide +kernel, by decide +kernel⟩
abbrev st_need_sounds : Stmt := topS 11
theorem sc_need_sounds : FnScope ["some", "one"] ["some"] (defScope st_need_sounds) := ⟨rfl, rfl, rfl, by decide +kernel, rfl, by decide +kernel, by decide +kernel⟩
abbrev st_is_step : Stmt := topS 15
theorem sc_is_step : FnScope ["thing"] ["thing"] (defScope st_is_step) := ⟨rfl, rfl, rfl, by decide +kernel, rfl, by decide +kernel, by decide +kernel⟩
abbrev st_are_steps : Stmt := topS 16
theorem sc_are_steps : FnScope ["thing", "one"] ["thing"] (defScope st_are_steps) := ⟨rfl, rfl, rfl, by decide +kernel, rfl, by decide +kernel, by decide +kernel⟩
abbrev st_middle : Stmt := topS 17
theorem sc_middle : FnScope ["some"] ["some"] (defScope st_middle) := ⟨rfl, rfl, rfl, by decide +kernel, rfl, by decide +kernel, by decide +kernel⟩
abbrev st_without_clicks : Stmt := topS 18
theorem sc_without_clicks : FnScope ["sound", "near", "far", "made", "at", "one", "some"] ["sound", "near", "far"] (defScope st_without_clicks) := ⟨rfl, rfl, rfl, by decide +kernel, rfl, by decide +kernel, by decide +kernel⟩
abbrev st_halved : Stmt := topS 12
theorem sc_halved : FnScope ["top", "below"] ["top", "below"] (defScope st_halved) := ⟨rfl, rfl, rfl, by decide +kernel, rfl, by decide +kernel, by decide +kernel⟩
abbrev st_cut_off : Stmt := topS 13
theorem sc_cut_off : FnScope ["number"] ["number"] (defScope st_cut_off) := ⟨rfl, rfl, rfl, by decide +kernel, rfl, by decide +kernel, by decide +kernel⟩
abbrev st_without_hum : Stmt := topS 19
theorem sc_without_hum : FnScope ["sound", "long", "made", "rest", "some", "mean", "at"] ["sound", "long"] (defScope st_without_hum) := ⟨rfl, rfl, rfl, by decide +kernel, rfl, by decide +kernel, by decide +kernel⟩
abbrev st_without_hush : Stmt := topS 20
theorem sc_without_hush : FnScope ["sound", "most", "long", "made", "start", "at"] ["sound", "most", "long"] (defScope st_without_hush) := ⟨rfl, rfl, rfl, by decide +kernel, rfl, by decide +kernel, by decide +kernel⟩
abbrev st_stepped : Stmt := topS 21
theorem sc_stepped : FnScope ["sound", "step", "mean", "one"] ["sound", "step"] (defScope st_stepped) := ⟨rfl, rfl, rfl, by decide +kernel, rfl, by decide +kernel, by decide +kernel⟩
abbrev st_trail_of : Stmt := topS 22
theorem sc_trail_of : FnScope ["before", "after", "at", "one", "other"] ["before", "after"] (defScope st_trail_of) := ⟨rfl, rfl, rfl, by decide +kernel, rfl, by decide +kernel, by decide +kernel⟩
abbrev st_cleaned : Stmt := topS 23
theorem sc_cleaned : FnScope ["sound", "steps", "trail", "step", "after"] ["sound", "steps"] (defScope st_cleaned) := ⟨rfl, rfl, rfl, by decide +kernel, rfl, by decide +kernel, by decide +kernel⟩
abbrev st_law_step : Stmt := topS 33
theorem sc_law_step : FnScope ["_law_script", "_law_town", "_law_what"] ["_law_script", "_law_town"] (defScope st_law_step) := ⟨rfl, rfl, rfl, by decide +kernel, rfl, by decide +kernel, by decide +kernel⟩
abbrev st_put_back : Stmt := topS 25
theorem sc_put_back : FnScope ["sound", "row", "made", "at", "one"] ["sound", "row"] (defScope st_put_back) := ⟨rfl, rfl, rfl, by decide +kernel, rfl, by decide +kernel, by decide +kernel⟩
abbrev st_is_row : Stmt := topS 24
theorem sc_is_row : FnScope ["thing", "long", "one", "other"] ["thing", "long"] (defScope st_is_row) := ⟨rfl, rfl, rfl, by decide +kernel, rfl, by decide +kernel, by decide +kernel⟩
abbrev st_led_back : Stmt := topS 26
theorem sc_led_back : FnScope ["sound", "trail", "row", "one"] ["sound", "trail"] (defScope st_led_back) := ⟨rfl, rfl, rfl, by decide +kernel, rfl, by decide +kernel, by decide +kernel⟩
abbrev st_law : Stmt := topS 36
theorem sc_law : FnScope ["_law_script", "_law_town", "_law_sound_here", "_law_hush", "_law_once", "_law_steps", "_law_now", "_law_trail", "_law_step_here", "_law_row", "_law_near", "_law_far", "_law_first", "_law_then", "_law_k", "_law_one"] ["_law_script"] (defScope st_law) := ⟨rfl, rfl, rfl, by decide +kernel, rfl, by decide +kernel, by decide +kernel⟩
structure Hd (M : Md) : Prop where
  b_len : M.mg "len" = none
  b_tuple : M.mg "tuple" = none
  b_range : M.mg "range" = none
  b_isinstance : M.mg "isinstance" = none
  b_int : M.mg "int" = none
  b_bool : M.mg "bool" = none
  b_all : M.mg "all" = none
  b_str : M.mg "str" = none
  b_sorted : M.mg "sorted" = none
  b_enumerate : M.mg "enumerate" = none
  b_max : M.mg "max" = none
  b_abs : M.mg "abs" = none
  b_min : M.mg "min" = none
  b_list : M.mg "list" = none
  b_sum : M.mg "sum" = none
  b_zip : M.mg "zip" = none
  c_LONGEST : ∃ t, M.mg "LONGEST" = some (.int (2000) t)
  c_LOW : ∃ t, M.mg "LOW" = some (.int (-2048) t)
  c_HIGH : ∃ t, M.mg "HIGH" = some (.int (2047) t)
  d_law_draw : DefIn M "_law_draw" st_law_draw ["_law_script", "_law_town", "_law_many"]
  d_law_pick : DefIn M "_law_pick" st_law_pick ["_law_script", "_law_town", "_law_some"]
  d_law_sound : DefIn M "_law_sound" st_law_sound ["_law_script", "_law_town", "_law_top"]
  d_is_whole : DefIn M "is_whole" st_is_whole ["thing", "least", "most"]
  d_is_sound : DefIn M "is_sound" st_is_sound ["thing"]
  d_need_sounds : DefIn M "need_sounds" st_need_sounds ["some"]
  d_is_step : DefIn M "is_step" st_is_step ["thing"]
  d_are_steps : DefIn M "are_steps" st_are_steps ["thing"]
  d_middle : DefIn M "middle" st_middle ["some"]
  d_without_clicks : DefIn M "without_clicks" st_without_clicks ["sound", "near", "far"]
  d_halved : DefIn M "halved" st_halved ["top", "below"]
  d_cut_off : DefIn M "cut_off" st_cut_off ["number"]
  d_without_hum : DefIn M "without_hum" st_without_hum ["sound", "long"]
  d_without_hush : DefIn M "without_hush" st_without_hush ["sound", "most", "long"]
  d_stepped : DefIn M "stepped" st_stepped ["sound", "step"]
  d_trail_of : DefIn M "trail_of" st_trail_of ["before", "after"]
  d_cleaned : DefIn M "cleaned" st_cleaned ["sound", "steps"]
  d_law_step : DefIn M "_law_step" st_law_step ["_law_script", "_law_town"]
  d_put_back : DefIn M "put_back" st_put_back ["sound", "row"]
  d_is_row : DefIn M "is_row" st_is_row ["thing", "long"]
  d_led_back : DefIn M "led_back" st_led_back ["sound", "trail"]
  d_law : LawIn M st_law "_law_script"
local macro_rules | `(tactic| walk_at "iw") => `(tactic| first | refine' ix_range1 (by exact Hd.b_range (by assumption)) (ve_ce ?_) | refine' ix_range2 (by exact Hd.b_range (by assumption)) (ve_ce ?_) (ve_ce ?_) | refine' ix_range3 (by exact Hd.b_range (by assumption)) (ve_ce ?_) (ve_ce ?_) (ve_ce ?_) ?_ | refine' ix_zipT (by exact Hd.b_zip (by assumption)) (ve_ce ?_) (ve_ce ?_) | refine' ix_zipL (by exact Hd.b_zip (by assumption)) (ve_ce ?_) (ve_ce ?_) | refine' ix_enS (by exact Hd.b_enumerate (by assumption)) (ve_ce ?_) | refine' ix_enT (by exact Hd.b_enumerate (by assumption)) (ve_ce ?_) | refine' ix_str (ve_ce ?_) | refine' ix_tup (ve_ce ?_) | refine' ix_list (ve_ceI ?_) | refine' ix_tupD (ve_ce ?_) | refine' ix_listD (ve_ceI ?_))
/-! ### drawing a number below so many -/
def preDraw (d0 : PyData) (ds : List PyData) : Prop := ∃ ns : List Int, d0 = .list (ns.map .int) ∧ ns.length ≤ 63 ∧ ∃ m : Int, ds = [.int m] ∧ 0 < m ∧ m < 536870912
def RDraw (_ : PyData) (ds : List PyData) (d : PyData) : Prop := ∃ m r : Int, ds = [.int m] ∧ d = .int r ∧ 0 ≤ r ∧ r < m
theorem mod_rng {i m : Int} (h : 0 < m) : 0 ≤ i.fmod m ∧ i.fmod m < m := by
  rw [Int.fmod_eq_emod_of_nonneg i (by omega)]
  exact ⟨Int.emod_nonneg _ (by omega), Int.emod_lt_of_pos _ h⟩
set_option maxHeartbeats 4000000 in
theorem ok_law_draw (M : Md) (T : Hd M) : FnT M 1 "_law_draw" preDraw RDraw := by
  obtain ⟨f, fd, F, hm, hb⟩ := T.d_law_draw
  refine ⟨f, fd, _, F.okN sc_law_draw (fun vs H Q E h => ?_) (fun cdv A outer s H vs Q E hr h => ?_), hm, F.kp, hb⟩
  · obtain ⟨B, v0, p, vs1, d0, ds1, rfl, _, _, _, _, hd1, ⟨ns, rfl, _, m, rfl, _⟩, _⟩ := h
    have := hd1.len
    simp
    simpa using this
  · obtain ⟨B, v0, p, vs1, d0, ds1, rfl, hB, bp, ⟨a, b, h0, hp⟩, hd0, hd1, ⟨ns, rfl, hl, m, rfl, m0, m1⟩, q⟩ := h
    cases hd0 with
    | @lst sa xs _ hs hx =>
    have ex := hx.ints
    subst ex
    cases hd1 with
    | cons h1 h2 =>
    cases h1
    cases h2
    have hS : SqL M.K H sa (ns.map V.int) := ex_l hB hs
    have nps : ∀ o, H p ≠ some (.frz o (.lst (ns.map V.int))) := fun o z => by rw [hp] at z; cases z
    -- what stands at the script stands whatever the town becomes
    have hSk : ∀ H', (∀ a o, H a = some o → a ≠ p → H' a = some o) → SqL M.K H' sa (ns.map V.int) := fun H' k => by
      rcases hs with (z | ⟨o, z⟩) | z
      · exact .inl (.inl (k _ _ (hB _ _ z) (fun y => by rw [y, bp] at z; cases z)))
      · exact .inl (.inr ⟨o, k _ _ (hB _ _ z) (fun y => by rw [y, bp] at z; cases z)⟩)
      · exact .inr z
    have fin : ∀ (H' : Hp) (r a' b' : Int), (∀ a o, H a = some o → a ≠ p → H' a = some o) → (∀ a, H' a = none → H a = none) → 0 ≤ a' → H' p = some (.lst [.int a', .int b']) → 0 ≤ r → r < m → Q (.int r) H' := fun H' r a' b' k1 k2 h3 h4 h5 h6 =>
      q (.int r) (.int r) H' B ⟨m, r, rfl, rfl, h5, h6⟩ (Ex.refl _) (fun c o z => k1 c o (hB c o z) (fun y => by rw [y, bp] at z; cases z)) k1 k2 (fun _ _ z => .inl z) ⟨a', b', h3, h4⟩ (.int r)
    have kp : ∀ o, ∀ c x, H c = some x → c ≠ p → (upd H p o) c = some x := fun o c x z hc => by rw [upd_ne hc]; exact z
    have dm : ∀ o, ∀ c, (upd H p o) c = none → H c = none := fun o c z => by
      by_cases hc : c = p
      · subst hc
        rw [upd_same] at z
        cases z
      · rw [upd_ne hc] at z
        exact z
    have ix1 : ∀ (u v : Int), atI [V.int u, V.int v] 1 = some (.int v) := fun u v => rfl
    have ix0 : ∀ (u v : Int), atI [V.int u, V.int v] 0 = some (.int u) := fun u v => rfl
    refine ⟨_, pss_cons (ps_if (pt_cmpR op_gt (pe_ix ix_list (pv 1) pe_int (fun _ _ => rfl)) pe_int (nomark _))
        (pss_cons (ps_set (i := 3) sc_law_draw.nd rfl (.inl rfl) (pe_op op_modN (pe_ix ix_list (pv 1) pe_int (fun _ _ => rfl)) (pv 2)))
        (pss_cons (ps_asg (pe_op op_fdivN (pe_ix ix_list (pv 1) pe_int (fun _ _ => rfl)) (pv 2)) (pg_sub (pv 1) pe_int set_list))
        (pss_one (ps_ret (pv 3)))))
        pss_nil)
      (pss_cons (ps_set (i := 4) sc_law_draw.nd rfl (.inl rfl) (pe_ix ix_list (pv 1) pe_int (fun _ _ => rfl)))
      (pss_cons (ps_augS (pv 1) pe_int pget_list pe_int ip_add set_list)
      (pss_cons (ps_if (pt_cmpR (op_eqD hr.units) (pv 0) (pe_lst pa_nil) (nomark _)) (pss_one (ps_ret (pe_op op_modN (pv 4) (pv 2)))) pss_nil)
      (pss_cons (ps_if (PW.pt (pw_and (pt_cmpR op_lt (pv 4) (pe_callB call_len_seq (by rfl) T.b_len PySem.boot_len (pa_cons (pv 0) pa_nil)) (nomark _)) (pw_and1 (pt_cmpR op_ge (pe_ix ix_list (pv 0) (pv 4) (fun _ _ => rfl)) (pe_op op_pow pe_int pe_int) (nomark _)))))
        (pss_cons (ps_asg (pe_op op_modN (pe_op op_fdivN (pe_ix ix_list (pv 0) (pv 4) (fun _ _ => rfl)) (pv 2)) (pe_op op_mulW (pe_op op_pow pe_int pe_int) (pe_op op_pow pe_int pe_int))) (pg_sub (pv 1) pe_int set_list))
        (pss_one (ps_ret (pe_op op_modN (pe_ix ix_list (pv 0) (pv 4) (fun _ _ => rfl)) (pv 2))))) pss_nil)
      (pss_cons (ps_set (i := 5) sc_law_draw.nd rfl (.inl rfl) (pe_op op_modN (pe_op op_add (pe_op op_add (pe_op op_mul (pe_ix ix_list (pv 0) (pe_op op_modN (pv 4) (pe_callB call_len_seq (by rfl) T.b_len PySem.boot_len (pa_cons (pv 0) pa_nil))) (fun _ _ => rfl)) pe_int) (pe_op op_mul pe_int (pv 4))) pe_int) pe_int))
      (pss_one (ps_ret (pe_op op_modN (pe_op op_modN (pe_op op_modN (pe_op op_pow (pv 5) pe_int) pe_int) pe_int) (pv 2))))))))), ?_⟩
    have hm2 : m ≠ 0 ∧ m.natAbs < 1073741824 := ⟨by omega, by omega⟩
    -- if town[1] > 0
    refine ⟨_, rfl, p, _, 1, _, rfl, rfl, .inl (.inl hp), ix1 a b, b, 0, rfl, rfl, _, rfl, ite2 (fun _ => ?_) (fun _ => ?_)⟩
    · refine ⟨_, rfl, p, _, 1, _, rfl, rfl, .inl (.inl hp), ix1 a b, _, rfl, b, m, rfl, rfl, hm2.1, ?_⟩
      refine ⟨_, rfl, p, _, 1, _, rfl, rfl, .inl (.inl hp), ix1 a b, _, rfl, b, m, rfl, rfl, hm2, ?_⟩
      refine ⟨_, rfl, p, _, 1, 1, rfl, rfl, hp, rfl, ?_⟩
      exact ⟨_, rfl, fin _ _ a _ (kp _) (dm _) h0 upd_same (mod_rng m0).1 (mod_rng m0).2⟩
    · -- at = town[0]; town[0] += 1
      refine ⟨_, rfl, p, _, 0, _, rfl, rfl, .inl (.inl hp), ix0 a b, ?_⟩
      refine ⟨_, rfl, p, _, 0, _, rfl, rfl, .inl (.inl hp), ix0 a b, a, 1, rfl, rfl, p, _, 0, 0, rfl, rfl, hp, rfl, ?_⟩
      have h0' : 0 ≤ a + 1 := by omega
      have hS1 := hSk _ (kp (.lst [.int (a + 1), .int b]))
      -- if script == []
      refine ⟨_, rfl, Nat.zero_le _, fun c hc => ?_⟩
      have npc : p ≠ c := fun z => by rw [← z, upd_same] at hc; cases hc
      have kc : ∀ c' x, (upd H p (.lst [.int (a + 1), .int b])) c' = some x → (upd (upd H p (.lst [.int (a + 1), .int b])) c (.lst [])) c' = some x := fun c' x z => by rw [upd_ne (ne_of_none z hc)]; exact z
      have hS2 : SqL M.K (upd (upd H p (.lst [.int (a + 1), .int b])) c (.lst [])) sa (ns.map V.int) := hSk _ fun c' x z hne => kc _ _ (kp _ _ _ z hne)
      have hp2 : (upd (upd H p (.lst [.int (a + 1), .int b])) c (.lst [])) p = some (.lst [.int (a + 1), .int b]) := by rw [upd_ne npc, upd_same]
      have kp2 : ∀ c' x, H c' = some x → c' ≠ p → (upd (upd H p (.lst [.int (a + 1), .int b])) c (.lst [])) c' = some x := fun c' x z hne => kc _ _ (kp _ _ _ z hne)
      have dm2 : ∀ c', (upd (upd H p (.lst [.int (a + 1), .int b])) c (.lst [])) c' = none → H c' = none := fun c' z => by
        by_cases hcc : c' = c
        · subst hcc
          rw [upd_same] at z
          cases z
        · rw [upd_ne hcc] at z
          exact dm _ _ z
      refine ⟨.list (ns.map .int), .list [], .lst hS2 (DtA.dp _ _ (noDict_ints ns) (DtA.ofInts ns)), .lst (.inl (.inl upd_same)) .nil, (shaped_ints ns).2, rfl, _, rfl, ite2 (fun _ => ?_) (fun hne => ?_)⟩
      · exact ⟨_, rfl, _, rfl, a, m, rfl, rfl, hm2.1, fin _ _ (a + 1) b kp2 dm2 h0' hp2 (mod_rng m0).1 (mod_rng m0).2⟩
      · have hpos : 0 < ns.length := by
          cases ns with
          | nil => exact absurd rfl hne
          | cons n ns => simp
        have key : ∀ x : Int, (x.fmod 2147483647).natAbs < 2 ^ 64 := fun x => by
          have := mod_rng (i := x) (m := 2147483647) (by decide)
          omega
        -- the last way
        have last : ∀ σ3 : L2.St, σ3 = [some (.ref sa), some (.ref p), some (.int m), none, some (.int a), none] → ∀ D : Ends, D.rt = Q →
            tSeq (tAsg (tOp (rI (fun _ j => j ≠ 0) fun i j => .int (i.fmod j)) (tOp (rI0 fun i j => .int (i + j)) (tOp (rI0 fun i j => .int (i + j)) (tOp (rI CMul fun i j => .int (i * j)) (tOp (rIxL M.K) (tVar 0) (tOp (rI (fun _ j => j ≠ 0) fun i j => .int (i.fmod j)) (tVar 4) (tCB (fun xs H Q => ∃ p ys, xs = [.ref p] ∧ (SqL M.K H p ys ∨ SqT M.K H p ys) ∧ Q (.int ys.length) H) (tCons (tVar 0) tNil)))) (tC (.int 1103515245))) (tOp (rI CMul fun i j => .int (i * j)) (tC (.int 7919)) (tVar 4))) (tC (.int 12345))) (tC (.int 2147483647))) (gName 5))
              (tRet (tOp (rI (fun _ j => j ≠ 0) fun i j => .int (i.fmod j)) (tOp (rI (fun _ j => j ≠ 0) fun i j => .int (i.fmod j)) (tOp (rI (fun _ j => j ≠ 0) fun i j => .int (i.fmod j)) (tOp (rI CPow fun i j => .int (i ^ j.toNat)) (tVar 5) (tC (.int 5))) (tC (.int 2147483647))) (tC (.int 999983))) (tVar 2))) D σ3 (upd (upd H p (.lst [.int (a + 1), .int b])) c (.lst [])) := by
          rintro σ3 rfl D hD
          have hlen : ((ns.map V.int).length : Int) ≠ 0 := by rw [List.length_map]; omega
          have hr := mod_rng (i := a) (m := ((ns.map V.int).length : Int)) (by rw [List.length_map]; omega)
          rw [List.length_map] at hr
          have hj : (a.fmod ((ns.map V.int).length : Int)).toNat < ns.length := by rw [List.length_map]; omega
          have hat : atI (ns.map V.int) (a.fmod ((ns.map V.int).length : Int)) = some (.int (ns[(a.fmod ((ns.map V.int).length : Int)).toNat]'hj)) := by
            refine at_of (j := (a.fmod ((ns.map V.int).length : Int)).toNat) (by rw [List.length_map]; omega) ?_
            rw [List.getElem?_map, List.getElem?_eq_getElem hj]
            rfl
          refine ⟨_, rfl, _, rfl, _, rfl, sa, _, rfl, .inl hS2, a, _, rfl, rfl, hlen, sa, _, _, _, rfl, rfl, hS2, hat, _, _, rfl, rfl, .inr ⟨by decide, by decide⟩, _, rfl, _, _, rfl, rfl, .inl ⟨by decide, by decide⟩, _, _, rfl, rfl, _, _, rfl, rfl, _, _, rfl, rfl, (show (2147483647 : Int) ≠ 0 by decide), ?_⟩
          refine ⟨_, rfl, _, _, rfl, rfl, ⟨by decide, by decide, key _⟩, _, _, rfl, rfl, (show (2147483647 : Int) ≠ 0 by decide), _, _, rfl, rfl, (show (999983 : Int) ≠ 0 by decide), _, rfl, _, m, rfl, rfl, hm2.1, ?_⟩
          rw [hD]
          exact fin _ _ (a + 1) b kp2 dm2 h0' hp2 (mod_rng m0).1 (mod_rng m0).2
        -- if at < len(script) and script[at] >= 10 ** 18
        refine ⟨_, rfl, _, rfl, sa, _, rfl, .inl hS2, a, _, rfl, rfl, _, rfl, ite2 (fun hlt => ?_) (fun _ => iteF (last _ rfl _ rfl))⟩
        have hlt' : a < (ns.length : Int) := by
          have := of_decide_eq_true hlt
          rw [List.length_map] at this
          exact this
        have hj : a.toNat < ns.length := by omega
        have hat : atI (ns.map V.int) a = some (.int (ns[a.toNat]'hj)) := by
          refine at_of (j := a.toNat) (by omega) ?_
          rw [List.getElem?_map, List.getElem?_eq_getElem hj]
          rfl
        refine ⟨_, rfl, _, rfl, sa, _, a, _, rfl, rfl, hS2, hat, _, _, rfl, rfl, ⟨by decide, by decide, by decide⟩, _, _, rfl, rfl, _, rfl, ite2 (fun _ => ?_) (fun _ => last _ rfl _ rfl)⟩
        refine ⟨_, rfl, _, rfl, sa, _, a, _, rfl, rfl, hS2, hat, _, rfl, _, m, rfl, rfl, hm2, _, _, rfl, rfl, ⟨by decide, by decide, by decide⟩, _, _, rfl, rfl, ⟨by decide, by decide, by decide⟩, _, _, rfl, rfl, wide_mul (a := 256) (b := 256) (by decide +kernel) (by decide +kernel) (by decide) (by decide) (by decide), _, _, rfl, rfl, (show (10 ^ Int.toNat 60 * 10 ^ Int.toNat 60 : Int) ≠ 0 by decide +kernel), ?_⟩
        refine ⟨_, rfl, p, _, 1, 1, rfl, rfl, hp2, rfl, ?_⟩
        have kp3 : ∀ o, ∀ c' x, H c' = some x → c' ≠ p → (upd (upd (upd H p (.lst [.int (a + 1), .int b])) c (.lst [])) p o) c' = some x := fun o c' x z hne => by rw [upd_ne hne]; exact kp2 _ _ z hne
        have dm3 : ∀ o, ∀ c', (upd (upd (upd H p (.lst [.int (a + 1), .int b])) c (.lst [])) p o) c' = none → H c' = none := fun o c' z => by
          by_cases hcc : c' = p
          · subst hcc
            rw [upd_same] at z
            cases z
          · rw [upd_ne hcc] at z
            exact dm2 _ z
        exact ⟨_, rfl, _, rfl, sa, _, a, _, rfl, rfl, hSk _ (kp3 _), hat, _, rfl, _, m, rfl, rfl, hm2.1, fin _ _ (a + 1) _ (kp3 _) (dm3 _) h0' upd_same (mod_rng m0).1 (mod_rng m0).2⟩

/-! ### the mathematics of sounds -/
def isWhole (d : PyData) (lo hi : Int) : Bool := match d with
  | .int i => decide (lo ≤ i) && decide (i ≤ hi)
  | _ => false
def szD : PyData → Prop
  | .tuple ds => ds.length ≤ 100000
  | .list ds => ds.length ≤ 100000
  | .str x => x.length ≤ 100000
  | _ => True
def isSnd (d : PyData) : Bool := match d with
  | .tuple ds => decide (ds.length ≤ 2000) && ds.all fun x => isWhole x (-2048) 2047
  | _ => false
def snd (ns : List Int) : PyData := .tuple (ns.map .int)
def SndOk (ns : List Int) : Prop := ns.length ≤ 2000 ∧ ∀ n ∈ ns, -2048 ≤ n ∧ n ≤ 2047
theorem isSnd_ok {ns : List Int} (h : SndOk ns) : isSnd (.tuple (ns.map .int)) = true := by
  obtain ⟨h1, h2⟩ := h
  unfold isSnd
  simp only [List.length_map, h1, decide_true, Bool.true_and, List.all_map, List.all_eq_true]
  intro x hx
  have := h2 x hx
  simp [isWhole, this]
def halvedF (t b : Int) : Int := (2 * t + b) / (2 * b)
def cutOff (n : Int) : Int := if (if n < 2047 then n else 2047) > -2048 then (if n < 2047 then n else 2047) else -2048
theorem cutOff_ok (n : Int) : -2048 ≤ cutOff n ∧ cutOff n ≤ 2047 := by
  unfold cutOff
  split <;> split <;> omega
/-! ### is_whole, is_sound, need_sounds -/
def G_is_whole (ds : List PyData) (o : Oc) : Prop := ∃ d lo hi, ds = [d, .int lo, .int hi] ∧ o = .ret (.bool (isWhole d lo hi))
theorem g_is_whole {d : PyData} {lo hi : Int} : G_is_whole [d, .int lo, .int hi] (.ret (.bool (isWhole d lo hi))) := ⟨d, lo, hi, rfl, rfl⟩
theorem ok_is_whole (M : Md) (T : Hd M) : Fn M 1 "is_whole" G_is_whole := by
  obtain ⟨f, fd, F, hm, hb⟩ := T.d_is_whole
  have nd := sc_is_whole.nd
  refine fn_ok F hm hb sc_is_whole (fun ds o h => ?_) fun E ds o h => ?_
  · obtain ⟨_, _, _, rfl, _⟩ := h; rfl
  obtain ⟨d, lo, hi, rfl, rfl⟩ := h
  have other : isIntD d = false → isWhole d lo hi = false := fun h => by cases d <;> first | rfl | cases h
  cases hI : isIntD d with
  | false =>
    refine rb_one (rs_ret (ve_andF (ve_is (ve_isi "int" T.b_isinstance T.b_int (ve_var 0)) (congrArg (fun b => Sl.im (.bool b)) hI))) ?_)
    exact ⟨_, by rw [other hI], rfl⟩
  | true =>
    cases hB : isBoolD d with
    | true =>
      refine rb_one (rs_ret (ve_and (ve_is (ve_isi "int" T.b_isinstance T.b_int (ve_var 0)) (congrArg (fun b => Sl.im (.bool b)) hI)) (fun _ => ve_andF (ve_is (ve_not (ve_isi "bool" T.b_isinstance T.b_bool (ve_var 0))) (congrArg (fun b => Sl.im (.bool (!b))) hB)))) ?_)
      refine ⟨_, ?_, rfl⟩
      cases d <;> first | rfl | (cases hB; done) | (cases hI; done)
    | false =>
      cases d with
      | int i =>
        refine rb_one (rs_ret (ve_andP (ve_isi "int" T.b_isinstance T.b_int (ve_var 0)) (ve_andP (ve_not (ve_isi "bool" T.b_isinstance T.b_bool (ve_var 0))) (ve_one (ve_chain (ve_var 1) (ve_var 0) (ve_var 2))))) ?_)
        exact ⟨_, rfl, rfl⟩
      | bool b => cases hB
      | _ => cases hI
def G_is_sound (ds : List PyData) (o : Oc) : Prop := ∃ d, ds = [d] ∧ szD d ∧ o = .ret (.bool (isSnd d))
theorem g_is_sound {d : PyData} (h : szD d) : G_is_sound [d] (.ret (.bool (isSnd d))) := ⟨d, rfl, h, rfl⟩
theorem ok_is_sound (M : Md) (T : Hd M) : Fn M 2 "is_sound" G_is_sound := by
  have F_is_whole := ok_is_whole M T
  obtain ⟨f, fd, F, hm, hb⟩ := T.d_is_sound
  have nd := sc_is_sound.nd
  refine fn_ok F hm hb sc_is_sound (fun ds o h => ?_) fun E ds o h => ?_
  · obtain ⟨_, rfl, _⟩ := h; rfl
  obtain ⟨d, rfl, hz, rfl⟩ := h
  cases hI : isTupD d with
  | false =>
    refine rb_cons (rs_if (VW.vt (vw_orT (vt_is (vt_not (vt_val (ve_isi "tuple" T.b_isinstance T.b_tuple (ve_var 0)))) (congrArg (!·) hI)))) (fun h => ?_) (fun h => nomatch h))
    refine rb_one (rs_ret ve_bl ?_)
    refine ⟨_, ?_, rfl⟩
    cases d <;> first | rfl | (cases hI; done)
  | true =>
    cases d with
    | tuple xs =>
      have hz' : xs.length ≤ 100000 := hz
      refine rb_cons (rs_if (VW.vt (vw_orP (vt_not (vt_val (ve_isi "tuple" T.b_isinstance T.b_tuple (ve_var 0)))) (vw_or1 (vt_cmp (ve_callB "len" T.b_len (va_cons (ve_var 0) va_nil)) (ve_globI T.c_LONGEST))))) (fun h => ?_) (fun h => ?_))
      · refine rb_one (rs_ret ve_bl ?_)
        refine ⟨_, ?_, rfl⟩
        have h' : decide ((2000 : Int) < (xs.length : Int)) = true := h
        have h2 := of_decide_eq_true h'
        show Oc.ret (.bool (decide (xs.length ≤ 2000) && _)) = _
        rw [decide_eq_false (by omega)]
        rfl
      · refine rb_nil ?_
        have h' : decide ((2000 : Int) < (xs.length : Int)) = false := h
        have h2 := of_decide_eq_false h'
        refine rb_one (rs_ret (ve_callB "all" T.b_all (va_cons (ve_im (ve_compN (inj := id) [("one", 1)] (ix_tup (ve_is (ve_var 0) (by rw [List.map_id]; rfl))) _ (fun x hx => ⟨_, _, by walk_at "kd inc", by rfl, (gd_name 1), (ve_call (ds := [_, _, _]) F_is_whole (va_cons (ve_var 1) (va_cons (ve_globI T.c_LOW) (va_cons (ve_globI T.c_HIGH) va_nil))) g_is_whole)⟩))) va_nil)) ?_)
        refine ⟨_, ?_, rfl⟩
        show Oc.ret (.bool (decide (xs.length ≤ 2000) && _)) = _
        rw [decide_eq_true (by omega), Bool.true_and]
        rfl
    | _ => cases hI
def G_need_sounds (ds : List PyData) (o : Oc) : Prop := ∃ xs : List PyData, ds = [.tuple xs] ∧ xs.length ≤ 100 ∧ (∀ x ∈ xs, szD x ∧ isSnd x = true) ∧ o = .ret .none
theorem ok_need_sounds (M : Md) (T : Hd M) : Fn M 3 "need_sounds" G_need_sounds := by
  have F_is_sound := ok_is_sound M T
  obtain ⟨f, fd, F, hm, hb⟩ := T.d_need_sounds
  have nd := sc_need_sounds.nd
  refine fn_ok F hm hb sc_need_sounds (fun ds o h => ?_) fun E ds o h => ?_
  · obtain ⟨_, rfl, _⟩ := h; rfl
  obtain ⟨xs, rfl, hl, hs, rfl⟩ := h
  refine rb_one (rs_if (vt_is (vt_not (vt_val (ve_callB "all" T.b_all (va_cons (ve_im (ve_compN (inj := id) [("one", 1)] (ix_tup (ve_is (ve_var 0) (by rw [List.map_id]; rfl))) _ (fun x hx => ⟨_, _, by walk_at "kd inc", by rfl, (gd_name 1), (ve_call (ds := [_]) F_is_sound (va_cons (ve_var 1) va_nil) (g_is_sound (hs x hx).1))⟩))) va_nil)))) (c' := false) ?_) (fun h => nomatch h) (fun h => ?_))
  · show (!xs.all fun x => isSnd x) = false
    rw [List.all_eq_true.mpr fun x hx => (hs x hx).2]
    rfl
  · exact rb_nil rfl
theorem g_need1 {ns : List Int} (h : SndOk ns) : G_need_sounds [.tuple [.tuple (ns.map .int)]] (.ret .none) := by
  refine ⟨_, rfl, by simp, fun x hx => ?_, rfl⟩
  rw [List.mem_singleton] at hx
  subst hx
  exact ⟨by show (ns.map PyData.int).length ≤ 100000; rw [List.length_map]; have := h.1; omega, isSnd_ok h⟩
theorem g_need2 {ns ms : List Int} (h : SndOk ns) (h' : SndOk ms) : G_need_sounds [.tuple [.tuple (ns.map .int), .tuple (ms.map .int)]] (.ret .none) := by
  refine ⟨_, rfl, by simp, fun x hx => ?_, rfl⟩
  rcases List.mem_cons.mp hx with z | z
  · subst z
    exact ⟨by show (ns.map PyData.int).length ≤ 100000; rw [List.length_map]; have := h.1; omega, isSnd_ok h⟩
  · rw [List.mem_singleton] at z
    subst z
    exact ⟨by show (ms.map PyData.int).length ≤ 100000; rw [List.length_map]; have := h'.1; omega, isSnd_ok h'⟩

/-! ### the other defs of sounds -/
def G_halved (ds : List PyData) (o : Oc) : Prop := ∃ t b, ds = [.int t, .int b] ∧ (0 < b ∧ b < 100000) ∧ o = .ret (.int (halvedF t b))
theorem g_halved {t b : Int} (h : 0 < b ∧ b < 100000) : G_halved [.int t, .int b] (.ret (.int (halvedF t b))) := ⟨t, b, rfl, h, rfl⟩
theorem ok_halved (M : Md) (T : Hd M) : Fn M 1 "halved" G_halved := by
  obtain ⟨f, fd, F, hm, hb⟩ := T.d_halved
  have nd := sc_halved.nd
  refine fn_ok F hm hb sc_halved (fun ds o h => ?_) fun E ds o h => ?_
  · obtain ⟨_, _, rfl, _⟩ := h; rfl
  obtain ⟨t, b, rfl, h, rfl⟩ := h
  refine rb_one (rs_ret (ve_bin (ve_bin (ve_bin ve_int (ve_var 0)) (ve_var 1)) (ve_bin ve_int (ve_var 1))) ?_)
  exact ⟨_, rfl, rfl⟩
def G_cut_off (ds : List PyData) (o : Oc) : Prop := ∃ n, ds = [.int n] ∧ o = .ret (.int (cutOff n))
theorem g_cut_off {n : Int} : G_cut_off [.int n] (.ret (.int (cutOff n))) := ⟨n, rfl, rfl⟩
theorem ok_cut_off (M : Md) (T : Hd M) : Fn M 1 "cut_off" G_cut_off := by
  obtain ⟨f, fd, F, hm, hb⟩ := T.d_cut_off
  have nd := sc_cut_off.nd
  refine fn_ok F hm hb sc_cut_off (fun ds o h => ?_) fun E ds o h => ?_
  · obtain ⟨_, rfl, _⟩ := h; rfl
  obtain ⟨n, rfl, rfl⟩ := h
  refine rb_one (rs_ret (ve_callB "max" T.b_max (va_cons (ve_globI T.c_LOW) (va_cons (ve_callB "min" T.b_min (va_cons (ve_globI T.c_HIGH) (va_cons (ve_var 0) va_nil))) va_nil))) ?_)
  exact ⟨_, rfl, rfl⟩
def louderF (a b x : Int) : Int := cutOff (halvedF (x * a) b)
def G_made_louder (ds : List PyData) (o : Oc) : Prop := ∃ (ns : List Int) (a b : Int), ds = [.tuple (ns.map .int), .tuple [.int a, .int b]] ∧ ns.length ≤ 100000 ∧ (0 ≤ a ∧ a ≤ 99 ∧ 1 ≤ b ∧ b ≤ 99) ∧ o = .ret (.tuple ((ns.map (louderF a b)).map .int))
theorem g_made_louder {ns : List Int} {a b : Int} (hl : ns.length ≤ 100000) (h : 0 ≤ a ∧ a ≤ 99 ∧ 1 ≤ b ∧ b ≤ 99) : G_made_louder [.tuple (ns.map .int), .tuple [.int a, .int b]] (.ret (.tuple ((ns.map (louderF a b)).map .int))) := ⟨ns, a, b, rfl, hl, h, rfl⟩
def G_is_loud (ds : List PyData) (o : Oc) : Prop := ∃ a b, ds = [.tuple [a, b]] ∧ o = .ret (.bool (isWhole a 0 99 && isWhole b 1 99))
theorem g_is_loud {a b : PyData} : G_is_loud [.tuple [a, b]] (.ret (.bool (isWhole a 0 99 && isWhole b 1 99))) := ⟨a, b, rfl, rfl⟩
def G_louder (ds : List PyData) (o : Oc) : Prop := ∃ (ns : List Int) (a b : Int), ds = [.tuple (ns.map .int), .int a, .int b] ∧ SndOk ns ∧ (0 ≤ a ∧ a ≤ 99 ∧ 1 ≤ b ∧ b ≤ 99) ∧ o = .ret (.tuple ((ns.map (louderF a b)).map .int))
theorem g_louder {ns : List Int} {a b : Int} (hl : SndOk ns) (h : 0 ≤ a ∧ a ≤ 99 ∧ 1 ≤ b ∧ b ≤ 99) : G_louder [.tuple (ns.map .int), .int a, .int b] (.ret (.tuple ((ns.map (louderF a b)).map .int))) := ⟨ns, a, b, rfl, hl, h, rfl⟩
def padTo (n : Nat) (ns : List Int) : List Int := ns ++ List.replicate (n - ns.length) 0
def togetherF (ns ms : List Int) : List Int := ((padTo (max ns.length ms.length) ns).zip (padTo (max ns.length ms.length) ms)).map fun q => cutOff (q.1 + q.2)
def G_together (ds : List PyData) (o : Oc) : Prop := ∃ (ns ms : List Int), ds = [.tuple (ns.map .int), .tuple (ms.map .int)] ∧ SndOk ns ∧ SndOk ms ∧ o = .ret (.tuple ((togetherF ns ms).map .int))
theorem g_together {ns ms : List Int} (h : SndOk ns) (h' : SndOk ms) : G_together [.tuple (ns.map .int), .tuple (ms.map .int)] (.ret (.tuple ((togetherF ns ms).map .int))) := ⟨ns, ms, rfl, h, h', rfl⟩
theorem pad_eq (ns : List Int) (k : Int) (n : Nat) (hk : k = (n : Int) - (ns.length : Int)) : ns.map PyData.int ++ (List.replicate k.toNat [PyData.int 0]).flatten = (padTo n ns).map PyData.int := by
  unfold padTo
  rw [flat_one, List.map_append, List.map_replicate, show k.toNat = n - ns.length by omega]
def loudF (ns : List Int) : Int := (ns.map fun x => x * x).sum
def G_loudness (ds : List PyData) (o : Oc) : Prop := ∃ (ns : List Int), ds = [.tuple (ns.map .int)] ∧ SndOk ns ∧ o = .ret (.int (loudF ns))
theorem g_loudness {ns : List Int} (h : SndOk ns) : G_loudness [.tuple (ns.map .int)] (.ret (.int (loudF ns))) := ⟨ns, rfl, h, rfl⟩
def absF (x : Int) : Int := if x < 0 then -x else x
def G_greatest (ds : List PyData) (o : Oc) : Prop := ∃ (ns : List Int), ds = [.tuple (ns.map .int)] ∧ SndOk ns ∧ o = .ret (.int (maxI 0 (ns.map absF)))
theorem g_greatest {ns : List Int} (h : SndOk ns) : G_greatest [.tuple (ns.map .int)] (.ret (.int (maxI 0 (ns.map absF)))) := ⟨ns, rfl, h, rfl⟩
/-! ### picking, drawing a sound -/
def preScr (d0 : PyData) : Prop := ∃ ns : List Int, d0 = .list (ns.map .int) ∧ ns.length ≤ 63
theorem pre_draw {d0 : PyData} {m : Int} (h : preScr d0) (h0 : 0 < m) (h1 : m < 536870912) : preDraw d0 [.int m] := by
  obtain ⟨ns, rfl, hl⟩ := h
  exact ⟨ns, rfl, hl, m, rfl, h0, h1⟩
theorem of_RDraw {d0 d : PyData} {m : Int} {P : PyData → Prop} (hP : ∀ r : Int, 0 ≤ r → r < m → P (.int r)) (h : RDraw d0 [.int m] d) : P d := by
  obtain ⟨m', r, e, rfl, h0, h1⟩ := h
  cases e
  exact hP r h0 h1
theorem at_lt {ds : List PyData} {r : Int} (h0 : 0 ≤ r) (h1 : r < (ds.length : Int)) : ∃ d, d ∈ ds ∧ L2.atI ds r = some d := by
  have h : r.toNat < ds.length := by omega
  refine ⟨ds[r.toNat], List.getElem_mem h, ?_⟩
  unfold atI ixN
  rw [if_pos h0, if_pos (by omega)]
  exact List.getElem?_eq_getElem h
def prePick (d0 : PyData) (ds : List PyData) : Prop := preScr d0 ∧ ∃ xs : List PyData, ds = [.list xs] ∧ 0 < xs.length ∧ xs.length ≤ 1000
def RPick (_ : PyData) (ds : List PyData) (d : PyData) : Prop := ∃ xs : List PyData, ds = [.list xs] ∧ d ∈ xs
theorem of_RPick {d0 d : PyData} {xs : List PyData} (h : RPick d0 [.list xs] d) : d ∈ xs := by
  obtain ⟨_, e, h⟩ := h
  cases e
  exact h
theorem ok_law_pick (M : Md) (T : Hd M) : FnT M 2 "_law_pick" prePick RPick := by
  have F_law_draw := ok_law_draw M T
  obtain ⟨f, fd, F, hm, hb⟩ := T.d_law_pick
  have nd := sc_law_pick.nd
  refine fn_okT F hm hb sc_law_pick (fun d0 ds h => ?_) fun E p d0 ds h => ?_
  · obtain ⟨_, _, rfl, _⟩ := h; rfl
  obtain ⟨hs, xs, rfl, h0, h1⟩ := h
  refine rb_one (rs_retR (P := fun d => d ∈ xs) (er_ix (P1 := fun d => d = .list xs) (P2 := fun _ d => ∃ r : Int, d = .int r ∧ 0 ≤ r ∧ r < xs.length) (er_of (ve_var 2) rfl) (fun d1 _ => er_draw 1 F_law_draw (ve_var 0) (va_cons (ve_callB "len" T.b_len (va_cons (ve_var 2) va_nil)) va_nil) (pre_draw hs (by omega) (by omega)) (fun d h => of_RDraw (P := fun d => ∃ r : Int, d = .int r ∧ 0 ≤ r ∧ r < xs.length) (fun r z1 z2 => ⟨r, rfl, z1, z2⟩) h)) (fun d1 d2 e h => ?_)) (fun d hd => ⟨d, rfl, ⟨xs, rfl, hd⟩, rfl⟩))
  obtain ⟨r, rfl, z0, z1⟩ := h
  subst e
  obtain ⟨d, hd, e⟩ := at_lt z0 z1
  exact ⟨d, hd, xd_lst (.inl rfl) e⟩
def SndD (top : Int) (d : PyData) : Prop := ∃ ns : List Int, d = .tuple (ns.map .int) ∧ (ns.length : Int) ≤ top ∧ ∀ n ∈ ns, -2048 ≤ n ∧ n ≤ 2047
def preSound (d0 : PyData) (ds : List PyData) : Prop := preScr d0 ∧ ∃ top : Int, ds = [.int top] ∧ 0 ≤ top ∧ top ≤ 2000
def RSound (_ : PyData) (ds : List PyData) (d : PyData) : Prop := ∃ top : Int, ds = [.int top] ∧ SndD top d
theorem of_RSound {d0 d : PyData} {top : Int} (h : RSound d0 [.int top] d) : SndD top d := by
  obtain ⟨_, e, h⟩ := h
  cases e
  exact h
theorem ok_law_sound (M : Md) (T : Hd M) : FnT M 3 "_law_sound" preSound RSound := by
  have F_law_pick := ok_law_pick M T
  have F_law_draw := ok_law_draw M T
  obtain ⟨f, fd, F, hm, hb⟩ := T.d_law_sound
  have nd := sc_law_sound.nd
  refine fn_okT F hm hb sc_law_sound (fun d0 ds h => ?_) fun E p d0 ds h => ?_
  · obtain ⟨_, _, rfl, _⟩ := h; rfl
  obtain ⟨hs, top, rfl, h0, h1⟩ := h
  refine rb_cons (rs_asgR 3 (P := fun d => ∃ g : Int, d = .int g ∧ (g = 3 ∨ g = 40 ∨ g = 4096)) (er_draw 1 F_law_pick (ds1 := [_]) (ve_var 0) (va_cons (ve_im (ve_lst (ds := [_, _, _, _]) (va_cons ve_int (va_cons ve_int (va_cons ve_int (va_cons ve_int va_nil)))))) va_nil) ⟨hs, _, rfl, by decide, by decide⟩ (fun d h => ?_)) (fun d h => ?_))
  · have := of_RPick h
    simp at this
    rcases this with rfl | rfl | rfl
    · exact ⟨_, rfl, by decide⟩
    · exact ⟨_, rfl, by decide⟩
    · exact ⟨_, rfl, by decide⟩
  obtain ⟨g, rfl, hg⟩ := h
  refine rb_one (rs_retR (P := SndD top) (er_callT "tuple" T.b_tuple (era_cons (P1 := fun d => ∃ ns : List Int, d = .list (ns.map .int) ∧ (ns.length : Int) ≤ top ∧ ∀ n ∈ ns, -2048 ≤ n ∧ n ≤ 2047) (er_lc [("_law_k", 4)] (Pn := fun n => (n : Int) ≤ top) (ir_range1 (P := fun d => ∃ r : Int, d = .int r ∧ 0 ≤ r ∧ r < top + 1) T.b_range (er_draw 1 F_law_draw (ds1 := [_]) (ve_var 0) (va_cons (ve_bin (ve_var 2) ve_int) va_nil) (pre_draw hs (by omega) (by omega)) (fun d h => of_RDraw (P := fun d => ∃ r : Int, d = .int r ∧ 0 ≤ r ∧ r < top + 1) (fun r z1 z2 => ⟨r, rfl, z1, z2⟩) h)) (fun d h => ?_)) (fun n i acc => ∃ ns : List Int, acc = ns.map .int ∧ ∀ x ∈ ns, -2048 ≤ x ∧ x ≤ 2047) (fun n hn => ⟨[], rfl, fun _ z => nomatch z⟩) (fun n hn => by omega) (by walk_at "kd blk") nd (noAt_ok rfl) (fun n i acc hn hi hl hI => ⟨_, _, by walk_at "kd inc", by rfl, gd_name 4, er_bin (P1 := fun d => ∃ r : Int, d = .int r ∧ 0 ≤ r ∧ r < g) (P2 := fun _ d => d = .int (g / 2)) (er_draw 1 F_law_draw (ds1 := [_]) (ve_var 0) (va_cons (ve_var 3) va_nil) (pre_draw hs (by omega) (by omega)) (fun d h => of_RDraw (P := fun d => ∃ r : Int, d = .int r ∧ 0 ≤ r ∧ r < g) (fun r z1 z2 => ⟨r, rfl, z1, z2⟩) h)) (fun d1 _ => er_of (ve_bin (ve_var 3) ve_int) rfl) (fun d1 d2 e1 e2 => ?_)⟩) (fun n acc hn hl hI => ?_)) (fun d hd => era_nil ?_))) (fun d hd => ⟨d, rfl, ⟨top, rfl, hd⟩, rfl⟩))
  · obtain ⟨r, rfl, z0, z1⟩ := h
    exact ⟨r.toNat, by rw [Int.toNat_of_nonneg z0], by omega, by omega⟩
  · obtain ⟨r, rfl, z0, z1⟩ := e1
    subst e2
    obtain ⟨ns, rfl, hr⟩ := hI
    refine ⟨_, ⟨ns ++ [r - g / 2], by rw [List.map_append]; rfl, fun x hx => ?_⟩, od_sub⟩
    rcases List.mem_append.mp hx with hx | hx
    · exact hr x hx
    · rw [List.mem_singleton] at hx
      subst hx
      omega
  · obtain ⟨ns, rfl, hr⟩ := hI
    rw [List.length_map] at hl
    exact ⟨ns, rfl, by omega, hr⟩
  · obtain ⟨ns, rfl, z⟩ := hd
    exact ⟨_, ⟨ns, rfl, z⟩, cd_tuple (.inl rfl)⟩

/-! ### subscripts of rows of ints -/
theorem at_get {ds : List PyData} {i : Int} {d : PyData} {j : Nat} (e : i = (j : Int)) (h : ds[j]? = some d) : L2.atI ds i = some d := by
  subst e
  have hj : j < ds.length := by
    rcases Nat.lt_or_ge j ds.length with z | z
    · exact z
    · rw [List.getElem?_eq_none z] at h; cases h
  unfold L2.atI ixN
  rw [if_pos (by omega), if_pos (by omega)]
  simpa using h
theorem at_ints {ns : List Int} {i : Int} (h0 : 0 ≤ i) (h1 : i < ns.length) : L2.atI (ns.map PyData.int) i = some (.int (ns.getD i.toNat 0)) := by
  have hj : i.toNat < ns.length := by omega
  refine at_get (j := i.toNat) (by omega) ?_
  rw [List.getElem?_map, List.getElem?_eq_getElem hj, List.getD_eq_getElem?_getD, List.getElem?_eq_getElem hj]
  rfl
theorem at_last (ds : List PyData) (d : PyData) : L2.atI (ds ++ [d]) (-1) = some d := by
  unfold L2.atI
  have : ixN (ds ++ [d]).length (-1) = some ds.length := by
    unfold ixN
    rw [if_neg (by decide), if_pos (by rw [List.length_append, List.length_singleton]; omega), List.length_append]
    congr 1
    simp
    omega
  rw [this]
  simp
theorem xd_intsT {S : Sh} {ns : List Int} {i : Int} (h0 : 0 ≤ i) (h1 : i < ns.length) : XD S (.im (.tuple (ns.map .int))) (.im (.int i)) (.im (.int (ns.getD i.toNat 0))) := xd_tup (at_ints h0 h1)
theorem xd_intsL {S : Sh} {ns : List Int} {i : Int} (h0 : 0 ≤ i) (h1 : i < ns.length) : XD S (.im (.list (ns.map .int))) (.im (.int i)) (.im (.int (ns.getD i.toNat 0))) := xd_lst (.inl rfl) (at_ints h0 h1)
theorem xd_intsA {S : Sh} {ns : List Int} {i : Int} (h0 : 0 ≤ i) (h1 : i < ns.length) : XD S (.al (ns.map .int)) (.im (.int i)) (.im (.int (ns.getD i.toNat 0))) := xd_lst (.inr (.inl rfl)) (at_ints h0 h1)
theorem cd_lenT {S : Sh} {ns : List Int} (h : ns.length ≤ 100000) : CD S (.builtin "len") [.im (.tuple (ns.map .int))] (.im (.int (ns.length : Nat))) := by
  have := cd_len (S := S) (s1 := .im (.tuple (ns.map .int))) (d := .tuple (ns.map .int)) (n := ns.length) rfl (by show some _ = _; rw [List.length_map]) h
  exact this
theorem cd_lenL {S : Sh} {ns : List Int} (h : ns.length ≤ 100000) : CD S (.builtin "len") [.im (.list (ns.map .int))] (.im (.int (ns.length : Nat))) := cd_len (s1 := .im (.list (ns.map .int))) (d := .list (ns.map .int)) (n := ns.length) rfl (by show some _ = _; rw [List.length_map]) h
theorem cd_lenA {S : Sh} {ns : List Int} (h : ns.length ≤ 100000) : CD S (.builtin "len") [.al (ns.map .int)] (.im (.int (ns.length : Nat))) := cd_len (s1 := .al (ns.map .int)) (d := .list (ns.map .int)) (n := ns.length) rfl (by show some _ = _; rw [List.length_map]) h
theorem len_ints (ns : List Int) : (ns.map PyData.int).length = ns.length := List.length_map _
theorem cut_nn (ns : List Int) (i j : Nat) : cutD (ns.map PyData.int) (some (i : Int)) (some (j : Int)) = ((ns.drop i).take (j - i)).map .int := by rw [cutD_nat, List.map_take, List.map_drop]
theorem ixN_nn {n : Nat} {i : Int} (h0 : 0 ≤ i) (h1 : i < n) : ixN n i = some i.toNat := by
  unfold ixN
  rw [if_pos h0, if_pos h1]
theorem cut_last (ds : List PyData) : cutD ds none (some (-1)) = ds.take (ds.length - 1) := by
  unfold cutD
  show (ds.drop 0).take ((if (-1 : Int) < 0 then ((-1 : Int) + (ds.length : Int)).toNat else min (-1 : Int).toNat ds.length) - 0) = _
  rw [if_pos (by decide), List.drop_zero]
  congr 1
  omega

/-! ### draws, told from left to right -/
section
variable {S : Sh} {ρ : List Sl} {e a : Expr} {es : List Expr} {pos p p2 : Pos} {Q : Sl → List Sl → Prop} {X : Str → Prop} {x y : Str} {j k : Nat} {pt : Addr} {d0 : PyData}
theorem ce_dr {m : Int} (hF : FnT S.toMd k x preDraw RDraw) (hN : Ix S.N j y) (hj : ρ[j]? = some (.rs (town pt))) (h0 : VE S ρ e (.im d0)) (hs : preScr d0) (h1 : CI S false ρ [a] (fun _ => False) (fun r' ρ' => r' = [.int m] ∧ ρ' = ρ)) (m0 : 0 < m) (m1 : m < 536870912) (q : ∀ r : Int, 0 ≤ r → r < m → Q (.im (.int r)) ρ)
    (hk : k ≤ S.k) (hg : S.sc.names.lookup x = some .globalImplicit) (hv : Vis S.sc y) (nvr : ρ.all noV = true := by rfl)
    (hdb : (x == ("__debug__" : Str)) = false := by decide) (hd : (y == ("__debug__" : Str)) = false := by decide) (hcd : (y == ("__classdict__" : Str)) = false := by decide)
    (he : ∀ X : Cx, starEach (e :: .Name y p2 :: [a]) X.env = (false, eval e X.env) :: starEach (.Name y p2 :: [a]) X.env := by intro _; rfl) (hpl : ∀ X : Cx, (backTo pos (starEach (.Name y p2 :: [a]) X.env)).any (·.1) = false := by intro _; rfl) :
    CE S true ρ (.Call (.Name x p) (e :: .Name y p2 :: [a]) [] pos) X Q := ce_draw hF hN hj h0 h1 (pre_draw hs m0 m1) (fun d hd => of_RDraw (P := fun d => Q (.im d) ρ) q hd) hk hg hv nvr hdb hd hcd he hpl
end

section
variable {S : Sh} {ρ : List Sl} {e a : Expr} {es : List Expr} {pos p p2 : Pos} {Q : Sl → List Sl → Prop} {X : Str → Prop} {x y : Str} {j k : Nat} {pt : Addr} {d0 : PyData}
theorem ce_pk {xs : List PyData} (hF : FnT S.toMd k x prePick RPick) (hN : Ix S.N j y) (hj : ρ[j]? = some (.rs (town pt))) (h0 : VE S ρ e (.im d0)) (hs : preScr d0) (h1 : CI S false ρ [a] (fun _ => False) (fun r' ρ' => r' = [.list xs] ∧ ρ' = ρ)) (m0 : 0 < xs.length) (m1 : xs.length ≤ 1000) (q : ∀ d ∈ xs, Q (.im d) ρ)
    (hk : k ≤ S.k) (hg : S.sc.names.lookup x = some .globalImplicit) (hv : Vis S.sc y) (nvr : ρ.all noV = true := by rfl)
    (hdb : (x == ("__debug__" : Str)) = false := by decide) (hd : (y == ("__debug__" : Str)) = false := by decide) (hcd : (y == ("__classdict__" : Str)) = false := by decide)
    (he : ∀ X : Cx, starEach (e :: .Name y p2 :: [a]) X.env = (false, eval e X.env) :: starEach (.Name y p2 :: [a]) X.env := by intro _; rfl) (hpl : ∀ X : Cx, (backTo pos (starEach (.Name y p2 :: [a]) X.env)).any (·.1) = false := by intro _; rfl) :
    CE S true ρ (.Call (.Name x p) (e :: .Name y p2 :: [a]) [] pos) X Q := ce_draw hF hN hj h0 h1 ⟨hs, xs, rfl, m0, m1⟩ (fun d hd => q d (of_RPick hd)) hk hg hv nvr hdb hd hcd he hpl
end

/-! ### drawn sounds, told from left to right -/
section
variable {S : Sh} {ρ : List Sl} {e a : Expr} {es : List Expr} {pos p p2 : Pos} {Q : Sl → List Sl → Prop} {X : Str → Prop} {x y : Str} {j k : Nat} {pt : Addr} {d0 : PyData}
theorem ce_snd {m : Int} (hF : FnT S.toMd k x preSound RSound) (hN : Ix S.N j y) (hj : ρ[j]? = some (.rs (town pt))) (h0 : VE S ρ e (.im d0)) (hs : preScr d0) (h1 : CI S false ρ [a] (fun _ => False) (fun r' ρ' => r' = [.int m] ∧ ρ' = ρ)) (m0 : 0 ≤ m) (m1 : m ≤ 2000) (q : ∀ ns : List Int, (ns.length : Int) ≤ m → (∀ n ∈ ns, -2048 ≤ n ∧ n ≤ 2047) → Q (.im (.tuple (ns.map .int))) ρ)
    (hk : k ≤ S.k) (hg : S.sc.names.lookup x = some .globalImplicit) (hv : Vis S.sc y) (nvr : ρ.all noV = true := by rfl)
    (hdb : (x == ("__debug__" : Str)) = false := by decide) (hd : (y == ("__debug__" : Str)) = false := by decide) (hcd : (y == ("__classdict__" : Str)) = false := by decide)
    (he : ∀ X : Cx, starEach (e :: .Name y p2 :: [a]) X.env = (false, eval e X.env) :: starEach (.Name y p2 :: [a]) X.env := by intro _; rfl) (hpl : ∀ X : Cx, (backTo pos (starEach (.Name y p2 :: [a]) X.env)).any (·.1) = false := by intro _; rfl) :
    CE S true ρ (.Call (.Name x p) (e :: .Name y p2 :: [a]) [] pos) X Q := ce_draw hF hN hj h0 h1 ⟨hs, m, rfl, m0, m1⟩ (fun d hd => by
      obtain ⟨ns, rfl, z1, z2⟩ := of_RSound hd
      exact q ns z1 z2) hk hg hv nvr hdb hd hcd he hpl
end

/-! ### the law's own halves and bounds -/
def lHalved (t b : Int) : Int := if decide (2 * (t - t / b * b) < b) = true then t / b else t / b + 1
def lBound (n : Int) : Int := if decide (n < -2048) = true then -2048 else if decide (2047 < n) = true then 2047 else n
theorem lHalved_eq {t b : Int} (h : 0 < b) : halvedF t b = lHalved t b := by
  unfold halvedF lHalved
  have e := Int.mul_ediv_add_emod t b
  have r0 := Int.emod_nonneg t (b := b) (by omega)
  have r1 := Int.emod_lt_of_pos t h
  have e2 : t / b * b = b * (t / b) := Int.mul_comm _ _
  have e3 : 2 * t + b = (2 * (t % b) + b) + (t / b) * (2 * b) := by
    have : (t / b) * (2 * b) = 2 * (b * (t / b)) := by rw [← Int.mul_assoc, Int.mul_comm (t / b) 2, Int.mul_assoc, Int.mul_comm (t / b) b]
    omega
  rw [e3, Int.add_mul_ediv_right _ _ (by omega)]
  by_cases c : 2 * (t % b) < b
  · rw [if_pos (decide_eq_true (by omega)), Int.ediv_eq_zero_of_lt (by omega) (by omega)]
    omega
  · rw [if_neg (by rw [decide_eq_true_iff]; omega), show 2 * (t % b) + b = (2 * (t % b) - b) + 1 * (2 * b) by omega, Int.add_mul_ediv_right _ _ (by omega), Int.ediv_eq_zero_of_lt (by omega) (by omega)]
    omega
theorem lBound_eq (n : Int) : cutOff n = lBound n := by
  unfold cutOff lBound
  by_cases h1 : n < -2048
  · simp only [h1, decide_true, if_true]
    split <;> split <;> omega
  · simp only [h1, decide_false, Bool.false_eq_true, if_false]
    by_cases h2 : 2047 < n
    · simp only [h2, decide_true, if_true]
      split <;> split <;> omega
    · simp only [h2, decide_false, Bool.false_eq_true, if_false]
      split <;> split <;> omega
def G_law_halved (ds : List PyData) (o : Oc) : Prop := ∃ t b, ds = [.int t, .int b] ∧ (0 < b ∧ b < 100000) ∧ o = .ret (.int (lHalved t b))
theorem g_law_halved {t b : Int} (h : 0 < b ∧ b < 100000) : G_law_halved [.int t, .int b] (.ret (.int (lHalved t b))) := ⟨t, b, rfl, h, rfl⟩
def G_law_bound (ds : List PyData) (o : Oc) : Prop := ∃ n, ds = [.int n] ∧ o = .ret (.int (lBound n))
theorem g_law_bound {n : Int} : G_law_bound [.int n] (.ret (.int (lBound n))) := ⟨n, rfl, rfl⟩
/-! ### steps -/
def isStepB (d : PyData) : Bool := match d with
  | .tuple (.str s :: r) =>
    if s = "clicks" then (match r with | [a, b] => isWhole a 1 9 && isWhole b 0 4095 | _ => false)
    else if s = "hum" then (match r with | [a] => isWhole a 1 99 | _ => false)
    else if s = "hush" then (match r with | [a, b] => isWhole a 0 2047 && isWhole b 1 99 | _ => false)
    else decide (s = "even") && r.isEmpty
  | _ => false
def okE (d : PyData) : Prop := noDict d = true ∧ SeqAt.shaped d = true ∧ szD d
theorem at1 (a d : PyData) (t : List PyData) : L2.atI (a :: d :: t) 1 = some d := atI_nat (j := 1) rfl
theorem at2 (a b d : PyData) (t : List PyData) : L2.atI (a :: b :: d :: t) 2 = some d := atI_nat (j := 2) rfl
theorem at0' (d : PyData) (t : List PyData) : L2.atI (d :: t) 0 = some d := atI_nat (j := 0) rfl
def G_is_step (ds : List PyData) (o : Oc) : Prop := ∃ d, ds = [d] ∧ okE d ∧ o = .ret (.bool (isStepB d))
theorem g_is_step {d : PyData} (h : okE d) : G_is_step [d] (.ret (.bool (isStepB d))) := ⟨d, rfl, h, rfl⟩
theorem len_ne {r : List PyData} {n : Nat} (h : r.length ≠ n) : cmpI .Eq (((.none :: r : List PyData).length : Nat) : Int) ((n + 1 : Nat) : Int) = false := by
  show decide ((((.none :: r : List PyData).length : Nat) : Int) = ((n + 1 : Nat) : Int)) = false
  rw [List.length_cons]
  exact decide_eq_false (by omega)
theorem dec_beq (a b : Str) : decide (a = b) = (a == b) := by
  rw [Bool.eq_iff_iff]
  simp
theorem ok_is_step (M : Md) (T : Hd M) : Fn M 2 "is_step" G_is_step := by
  have F_is_whole := ok_is_whole M T
  obtain ⟨f, fd, F, hm, hb⟩ := T.d_is_step
  have nd := sc_is_step.nd
  refine fn_ok F hm hb sc_is_step (fun ds o h => ?_) fun E ds o h => ?_
  · obtain ⟨_, rfl, _⟩ := h; rfl
  obtain ⟨d, rfl, ⟨h1, h2, h3⟩, rfl⟩ := h
  cases hI : isTupD d with
  | false =>
    refine rb_cons (rs_if (VW.vt (vw_orT (vt_is (vt_not (vt_val (ve_isi "tuple" T.b_isinstance T.b_tuple (ve_var 0)))) (congrArg (!·) hI)))) (fun h => ?_) (fun h => nomatch h))
    refine rb_one (rs_ret ve_bl ?_)
    refine ⟨_, ?_, rfl⟩
    cases d <;> first | rfl | (cases hI; done)
  | true =>
    cases d with
    | tuple xs =>
      have hz' : xs.length ≤ 100000 := h3
      cases xs with
      | nil =>
        refine rb_cons (rs_if (vt_is (VW.vt (vw_orP (vt_not (vt_val (ve_isi "tuple" T.b_isinstance T.b_tuple (ve_var 0)))) (vw_orT (vt_is (vt_cmp (ve_var 0) (ve_tup (ds := []) va_nil) (od_eqI (d1 := .tuple []) (d2 := .tuple []) rfl rfl (by kernel_rfl) (by kernel_rfl))) (c' := true) rfl)))) (c' := true) rfl) (fun h => ?_) (fun h => nomatch h))
        exact rb_one (rs_ret ve_bl ⟨_, rfl, rfl⟩)
      | cons y r =>
        have q2 : PyData.eqv (.tuple (y :: r)) (.tuple []) = false := by simp [PyData.eqv, PyData.eqvAll]
        cases hS : isStrD y with
        | false =>
          refine rb_cons (rs_if (vt_is (VW.vt (vw_orP (vt_not (vt_val (ve_isi "tuple" T.b_isinstance T.b_tuple (ve_var 0)))) (vw_orP (vt_cmp (ve_var 0) (ve_tup (ds := []) va_nil) (od_eqI (d1 := .tuple (y :: r)) (d2 := .tuple []) h1 rfl h2 (by kernel_rfl))) (vw_or1 (vt_not (vt_val (ve_isi "str" T.b_isinstance T.b_str (ve_ix (ve_var 0) ve_int (xd_tup (at0' y r)))))))))) (c' := true) (by rw [q2, hS]; rfl)) (fun h => ?_) (fun h => nomatch h))
          refine rb_one (rs_ret ve_bl ?_)
          refine ⟨_, ?_, rfl⟩
          cases y <;> first | rfl | (cases hS; done)
        | true =>
          cases y with
          | str s =>
            refine rb_cons (rs_if (vt_is (VW.vt (vw_orP (vt_not (vt_val (ve_isi "tuple" T.b_isinstance T.b_tuple (ve_var 0)))) (vw_orP (vt_cmp (ve_var 0) (ve_tup (ds := []) va_nil) (od_eqI (d1 := .tuple (.str s :: r)) (d2 := .tuple []) h1 rfl h2 (by kernel_rfl))) (vw_or1 (vt_not (vt_val (ve_isi "str" T.b_isinstance T.b_str (ve_ix (ve_var 0) ve_int (xd_tup (at0' (.str s) r)))))))))) (c' := false) (by rw [q2]; rfl)) (fun h => nomatch h) (fun h => ?_))
            refine rb_nil ?_
            refine rb_cons (rs_if (vt_cmp (ve_ix (ve_var 0) ve_int (xd_tup (at0' (.str s) r))) ve_str) (fun h => ?_) (fun h => ?_))
            · have e : s = "clicks" := of_decide_eq_true h
              subst e
              by_cases hl : r.length = 2
              · match r, hl with
                | [a, b], _ =>
                  refine rb_one (rs_ret (ve_andP (ve_cmp (ve_callB "len" T.b_len (va_cons (ve_var 0) va_nil)) ve_int) (ve_andP (ve_call (ds := [_, _, _]) F_is_whole (va_cons (ve_ix (ve_var 0) ve_int (xd_tup (at1 _ a [b]))) (va_cons ve_int (va_cons ve_int va_nil))) g_is_whole) (ve_one (ve_call (ds := [_, _, _]) F_is_whole (va_cons (ve_ix (ve_var 0) ve_int (xd_tup (at2 _ a b []))) (va_cons ve_int (va_cons ve_int va_nil))) g_is_whole)))) ?_)
                  exact ⟨_, rfl, rfl⟩
              · refine rb_one (rs_ret (ve_andF (ve_is (ve_cmp (ve_callB "len" T.b_len (va_cons (ve_var 0) va_nil)) ve_int) (congrArg (fun b => Sl.im (.bool b)) (len_ne (n := 2) hl)))) ?_)
                refine ⟨_, ?_, rfl⟩
                match r, hl with
                | [], _ => rfl
                | [_], _ => rfl
                | _ :: _ :: _ :: _, _ => rfl
                | [_, _], z => exact absurd rfl z
            refine rb_nil ?_
            have n1 : s ≠ "clicks" := of_decide_eq_false h
            refine rb_cons (rs_if (vt_cmp (ve_ix (ve_var 0) ve_int (xd_tup (at0' (.str s) r))) ve_str) (fun h => ?_) (fun h => ?_))
            · have e : s = "hum" := of_decide_eq_true h
              subst e
              by_cases hl : r.length = 1
              · match r, hl with
                | [a], _ =>
                  refine rb_one (rs_ret (ve_andP (ve_cmp (ve_callB "len" T.b_len (va_cons (ve_var 0) va_nil)) ve_int) (ve_one (ve_call (ds := [_, _, _]) F_is_whole (va_cons (ve_ix (ve_var 0) ve_int (xd_tup (at1 _ a []))) (va_cons ve_int (va_cons ve_int va_nil))) g_is_whole))) ?_)
                  exact ⟨_, rfl, rfl⟩
              · refine rb_one (rs_ret (ve_andF (ve_is (ve_cmp (ve_callB "len" T.b_len (va_cons (ve_var 0) va_nil)) ve_int) (congrArg (fun b => Sl.im (.bool b)) (len_ne (n := 1) hl)))) ?_)
                refine ⟨_, ?_, rfl⟩
                match r, hl with
                | [], _ => rfl
                | _ :: _ :: _, _ => rfl
                | [_], z => exact absurd rfl z
            refine rb_nil ?_
            have n2 : s ≠ "hum" := of_decide_eq_false h
            refine rb_cons (rs_if (vt_cmp (ve_ix (ve_var 0) ve_int (xd_tup (at0' (.str s) r))) ve_str) (fun h => ?_) (fun h => ?_))
            · have e : s = "hush" := of_decide_eq_true h
              subst e
              by_cases hl : r.length = 2
              · match r, hl with
                | [a, b], _ =>
                  refine rb_one (rs_ret (ve_andP (ve_cmp (ve_callB "len" T.b_len (va_cons (ve_var 0) va_nil)) ve_int) (ve_andP (ve_call (ds := [_, _, _]) F_is_whole (va_cons (ve_ix (ve_var 0) ve_int (xd_tup (at1 _ a [b]))) (va_cons ve_int (va_cons ve_int va_nil))) g_is_whole) (ve_one (ve_call (ds := [_, _, _]) F_is_whole (va_cons (ve_ix (ve_var 0) ve_int (xd_tup (at2 _ a b []))) (va_cons ve_int (va_cons ve_int va_nil))) g_is_whole)))) ?_)
                  exact ⟨_, rfl, rfl⟩
              · refine rb_one (rs_ret (ve_andF (ve_is (ve_cmp (ve_callB "len" T.b_len (va_cons (ve_var 0) va_nil)) ve_int) (congrArg (fun b => Sl.im (.bool b)) (len_ne (n := 2) hl)))) ?_)
                refine ⟨_, ?_, rfl⟩
                match r, hl with
                | [], _ => rfl
                | [_], _ => rfl
                | _ :: _ :: _ :: _, _ => rfl
                | [_, _], z => exact absurd rfl z
            refine rb_nil ?_
            have n3 : s ≠ "hush" := of_decide_eq_false h
            refine rb_one (rs_ret (ve_cmp (ve_var 0) (ve_tup (ds := [_]) (va_cons ve_str va_nil)) (od_eqI (d1 := .tuple (.str s :: r)) (d2 := .tuple [.str "even"]) h1 rfl h2 (by kernel_rfl))) ?_)
            refine ⟨_, ?_, rfl⟩
            unfold isStepB
            dsimp only
            rw [if_neg n1, if_neg n2, if_neg n3]
            cases r <;> simp [PyData.eqv, PyData.eqvAll, dec_beq]
          | _ => cases hS
    | _ => cases hI
def areStepsB (d : PyData) : Bool := match d with
  | .tuple xs => xs.all isStepB
  | _ => false
def okES (d : PyData) : Prop := match d with
  | .tuple xs => xs.length ≤ 100000 ∧ ∀ x ∈ xs, okE x
  | _ => True
def G_are_steps (ds : List PyData) (o : Oc) : Prop := ∃ d, ds = [d] ∧ okES d ∧ o = .ret (.bool (areStepsB d))
theorem g_are_steps {d : PyData} (h : okES d) : G_are_steps [d] (.ret (.bool (areStepsB d))) := ⟨d, rfl, h, rfl⟩
theorem ok_are_steps (M : Md) (T : Hd M) : Fn M 3 "are_steps" G_are_steps := by
  have F_is_step := ok_is_step M T
  obtain ⟨f, fd, F, hm, hb⟩ := T.d_are_steps
  have nd := sc_are_steps.nd
  refine fn_ok F hm hb sc_are_steps (fun ds o h => ?_) fun E ds o h => ?_
  · obtain ⟨_, rfl, _⟩ := h; rfl
  obtain ⟨d, rfl, hz, rfl⟩ := h
  cases hI : isTupD d with
  | false =>
    refine rb_one (rs_ret (ve_andF (ve_is (ve_isi "tuple" T.b_isinstance T.b_tuple (ve_var 0)) (congrArg (fun b => Sl.im (.bool b)) hI))) ?_)
    refine ⟨_, ?_, rfl⟩
    cases d <;> first | rfl | (cases hI; done)
  | true =>
    cases d with
    | tuple xs =>
      have hl := hz.1
      refine rb_one (rs_ret (ve_andP (ve_isi "tuple" T.b_isinstance T.b_tuple (ve_var 0)) (ve_one (ve_callB "all" T.b_all (va_cons (ve_im (ve_compN (inj := id) [("one", 1)] (ix_tup (ve_is (ve_var 0) (by rw [List.map_id]; rfl))) _ (fun x hx => ⟨_, _, by walk_at "kd inc", by rfl, (gd_name 1), (ve_call (ds := [_]) F_is_step (va_cons (ve_var 1) va_nil) (g_is_step (hz.2 x hx)))⟩))) va_nil)))) ?_)
      exact ⟨_, rfl, rfl⟩
    | _ => cases hI

/-! ### rows of a trail -/
def isPairB (long : Int) (d : PyData) : Bool := match d with
  | .tuple [a, b] => isWhole a 0 (long - 1) && isWhole b (-2048) 2047
  | _ => false
def fst0 (d : PyData) : Int := match d with
  | .tuple (.int a :: _) => a
  | _ => 0
def isRowB (d : PyData) (long : Int) : Bool := match d with
  | .list xs => xs.all (isPairB long) && ((xs.zip (xs.drop 1)).all fun q => decide (fst0 q.1 < fst0 q.2))
  | _ => false
def okRow (d : PyData) : Prop := match d with
  | .list xs => xs.length ≤ 100000 ∧ ∀ x ∈ xs, szD x
  | _ => True
def prD (q : Int × Int) : PyData := .tuple [.int q.1, .int q.2]
theorem whole_int {d : PyData} {lo hi : Int} (h : isWhole d lo hi = true) : ∃ i, d = .int i ∧ lo ≤ i ∧ i ≤ hi := by
  cases d with
  | int i =>
    have h' : (decide (lo ≤ i) && decide (i ≤ hi)) = true := h
    rw [Bool.and_eq_true, decide_eq_true_iff, decide_eq_true_iff] at h'
    exact ⟨i, rfl, h'⟩
  | _ => cases h
theorem pair_int {d : PyData} {long : Int} (h : isPairB long d = true) : ∃ q : Int × Int, d = prD q ∧ (0 ≤ q.1 ∧ q.1 < long) ∧ (-2048 ≤ q.2 ∧ q.2 ≤ 2047) := by
  unfold isPairB at h
  split at h
  · rename_i a b
    rw [Bool.and_eq_true] at h
    obtain ⟨i, rfl, h1, h2⟩ := whole_int h.1
    obtain ⟨j, rfl, h3⟩ := whole_int h.2
    exact ⟨(i, j), rfl, ⟨h1, by omega⟩, h3⟩
  · cases h
theorem pairs_int {long : Int} : ∀ {xs : List PyData}, xs.all (isPairB long) = true → ∃ ps : List (Int × Int), xs = ps.map prD ∧ ∀ q ∈ ps, (0 ≤ q.1 ∧ q.1 < long) ∧ (-2048 ≤ q.2 ∧ q.2 ≤ 2047)
  | [], _ => ⟨[], rfl, fun _ z => nomatch z⟩
  | x :: xs, h => by
    rw [List.all_cons, Bool.and_eq_true] at h
    obtain ⟨q, rfl, hq⟩ := pair_int h.1
    obtain ⟨ps, rfl, hp⟩ := pairs_int h.2
    refine ⟨q :: ps, rfl, fun r hr => ?_⟩
    rcases List.mem_cons.mp hr with rfl | hr
    · exact hq
    · exact hp r hr
def G_is_row (ds : List PyData) (o : Oc) : Prop := ∃ d long, ds = [d, .int long] ∧ okRow d ∧ o = .ret (.bool (isRowB d long))
theorem g_is_row {d : PyData} {long : Int} (h : okRow d) : G_is_row [d, .int long] (.ret (.bool (isRowB d long))) := ⟨d, long, rfl, h, rfl⟩
theorem cut1 (ds : List PyData) : cutD ds (some 1) none = ds.drop 1 := by
  have e := HT.sIx_nat ds.length 0 1
  unfold cutD
  rw [show (some (1 : Int)) = some ((1 : Nat) : Int) from rfl, e]
  show List.take (HT.sIx ds.length ds.length none - _) _ = _
  cases ds with
  | nil => rfl
  | cons a r =>
    rw [show min 1 (a :: r).length = 1 by simp]
    rw [List.take_of_length_le]
    simp [HT.sIx]
theorem ok_is_row (M : Md) (T : Hd M) : Fn M 2 "is_row" G_is_row := by
  have F_is_whole := ok_is_whole M T
  obtain ⟨f, fd, F, hm, hb⟩ := T.d_is_row
  have nd := sc_is_row.nd
  refine fn_ok F hm hb sc_is_row (fun ds o h => ?_) fun E ds o h => ?_
  · obtain ⟨_, _, rfl, _⟩ := h; rfl
  obtain ⟨d, long, rfl, hz, rfl⟩ := h
  cases hI : isListD d with
  | false =>
    refine rb_cons (rs_if (vt_is (vt_not (vt_val (ve_isi "list" T.b_isinstance T.b_list (ve_var 0)))) (congrArg (!·) hI)) (fun h => ?_) (fun h => nomatch h))
    refine rb_one (rs_ret ve_bl ?_)
    refine ⟨_, ?_, rfl⟩
    cases d <;> first | rfl | (cases hI; done)
  | true =>
    cases d with
    | list xs =>
      obtain ⟨hl, hel⟩ := hz
      refine rb_cons (rs_if (vt_is (vt_not (vt_val (ve_isi "list" T.b_isinstance T.b_list (ve_var 0)))) (c' := false) rfl) (fun h => nomatch h) (fun h => ?_))
      refine rb_nil ?_
      refine rb_cons (rs_forX (xs := xs) (inj := id) (ix_list (ve_is (ve_var 0) (by rw [List.map_id]; rfl))) (fun pre ρ => ρ = [.im (.list xs), .im (.int long), .no, .no] ∧ pre.all (isPairB long) = true) ⟨rfl, rfl⟩ (fun pre x post ρ1 hx hI => ?_) (fun ρ1 hI => ?_))
      · obtain ⟨rfl, hp⟩ := hI
        have hmem : x ∈ xs := by rw [hx]; exact List.mem_append_right _ List.mem_cons_self
        have hzx := hel x hmem
        have bad : isPairB long x = false → isRowB (.list xs) long = false := fun e => by
          have : xs.all (isPairB long) = false := List.all_eq_false.mpr ⟨x, hmem, by rw [e]; decide⟩
          unfold isRowB
          dsimp only
          rw [this]
          rfl
        refine ⟨_, _, gd_name 2, ?_⟩
        have isp : (∃ a b, x = .tuple [a, b]) ∨ isPairB long x = false := by
          unfold isPairB
          split
          · exact .inl ⟨_, _, rfl⟩
          · exact .inr rfl
        cases hT : isTupD x with
        | false =>
          refine rb_cons (rs_if (VW.vt (vw_orT (vt_is (vt_not (vt_val (ve_isi "tuple" T.b_isinstance T.b_tuple (ve_var 2)))) (congrArg (!·) hT)))) (fun h => ?_) (fun h => nomatch h))
          refine rb_one (rs_ret ve_bl ?_)
          refine ⟨_, ?_, rfl⟩
          rw [bad]
          rcases isp with ⟨a, b, rfl⟩ | e
          · cases hT
          · exact e
        | true =>
          cases x with
          | tuple ys =>
            have hz2 : ys.length ≤ 100000 := hzx
            by_cases hl2 : ys.length = 2
            · match ys, hl2 with
              | [a, b], _ =>
                refine rb_cons (rs_if (VW.vt (vw_orP (vt_not (vt_val (ve_isi "tuple" T.b_isinstance T.b_tuple (ve_var 2)))) (vw_orP (vt_cmp (ve_callB "len" T.b_len (va_cons (ve_var 2) va_nil)) ve_int) (vw_or1 (vt_not (vt_val (ve_call (ds := [_, _, _]) F_is_whole (va_cons (ve_ix (ve_var 2) ve_int (xd_tup (at0' a [b]))) (va_cons ve_int (va_cons (ve_bin (ve_var 1) ve_int) va_nil))) g_is_whole))))))) (fun h => ?_) (fun h => ?_))
                · refine rb_one (rs_ret ve_bl ?_)
                  refine ⟨_, ?_, rfl⟩
                  rw [bad]
                  have h' : (!isWhole a 0 (long - 1)) = true := h
                  show (isWhole a 0 (long - 1) && _) = false
                  rw [Bool.not_eq_true'] at h'
                  rw [h']
                  rfl
                · refine rb_nil ?_
                  have h' : (!isWhole a 0 (long - 1)) = false := h
                  rw [Bool.not_eq_false'] at h'
                  refine rb_cons (rs_if (vt_not (vt_val (ve_call (ds := [_, _, _]) F_is_whole (va_cons (ve_ix (ve_var 2) ve_int (xd_tup (at1 a b []))) (va_cons (ve_globI T.c_LOW) (va_cons (ve_globI T.c_HIGH) va_nil))) g_is_whole))) (fun h => ?_) (fun h => ?_))
                  · refine rb_one (rs_ret ve_bl ?_)
                    refine ⟨_, ?_, rfl⟩
                    rw [bad]
                    show (isWhole a 0 (long - 1) && isWhole b (-2048) 2047) = false
                    rw [Bool.not_eq_true'] at h
                    rw [h, Bool.and_false]
                  · refine rb_nil ?_
                    rw [Bool.not_eq_false'] at h
                    refine rb_no 2 (rb_nil ⟨rfl, ?_⟩)
                    rw [List.all_append, hp, Bool.true_and]
                    show (isPairB long (.tuple [a, b]) && true) = true
                    show ((isWhole a 0 (long - 1) && isWhole b (-2048) 2047) && true) = true
                    rw [h', h]
                    rfl
            · refine rb_cons (rs_if (vt_is (VW.vt (vw_orP (vt_not (vt_val (ve_isi "tuple" T.b_isinstance T.b_tuple (ve_var 2)))) (vw_orT (vt_is (vt_cmp (ve_callB "len" T.b_len (va_cons (ve_var 2) va_nil)) ve_int) (c' := true) ?_)))) (c' := true) rfl) (fun h => ?_) (fun h => nomatch h))
              · show (!decide ((ys.length : Int) = 2)) = true
                rw [decide_eq_false (by omega)]
                rfl
              · refine rb_one (rs_ret ve_bl ?_)
                refine ⟨_, ?_, rfl⟩
                rw [bad]
                rcases isp with ⟨a, b, e⟩ | e
                · cases e
                  exact absurd rfl hl2
                · exact e
          | _ => cases hT
      · obtain ⟨rfl, hp⟩ := hI
        obtain ⟨ps, rfl, hps⟩ := pairs_int hp
        rw [List.length_map] at hl
        refine rb_one (rs_ret (ve_callB "all" T.b_all (va_cons (ve_im (ve_compN [("one", 2), ("other", 3)] (ix_zipL (xs := ps) (ys := ps.drop 1) (f := prD) (g := prD) T.b_zip (ve_var 0) (ve_im (ve_is (ve_slice (ve_var 0) (vo_some ve_int) vo_none) (by rw [cut1, List.map_drop])))) _ (fun x hx => ⟨_, _, by walk_at "kd inc", by rfl, (gd_tup (gds_cons (gd_name 2) (gds_cons (gd_name 3) gds_nil))), (ve_cmp (ve_ix (ve_var 2) ve_int (xd_tup (at0' _ _))) (ve_ix (ve_var 3) ve_int (xd_tup (at0' _ _))))⟩) (by rw [List.length_zip]; omega))) va_nil)) ?_)
        refine ⟨_, ?_, rfl⟩
        unfold isRowB
        dsimp only
        rw [hp, Bool.true_and, ← List.map_drop, List.zip_map, List.all_map]
        rfl
    | _ => cases hI

/-! ### putting back, leading back; what is refused -/
def putBack (ns : List Int) (row : List (Int × Int)) : List Int := row.foldl (fun acc q => acc.set q.1.toNat q.2) ns
theorem putBack_len (row : List (Int × Int)) : ∀ ns : List Int, (putBack ns row).length = ns.length := by
  induction row with
  | nil => intro ns; rfl
  | cons q row ih =>
    intro ns
    show (putBack (ns.set q.1.toNat q.2) row).length = _
    rw [ih, List.length_set]
def G_put_back (ds : List PyData) (o : Oc) : Prop := ∃ (ns : List Int) (row : List (Int × Int)), ds = [.tuple (ns.map .int), .list (row.map prD)] ∧ (∀ q ∈ row, 0 ≤ q.1 ∧ q.1 < ns.length) ∧ o = .ret (.tuple ((putBack ns row).map .int))
theorem ok_put_back (M : Md) (T : Hd M) : Fn M 1 "put_back" G_put_back := by
  obtain ⟨f, fd, F, hm, hb⟩ := T.d_put_back
  have nd := sc_put_back.nd
  refine fn_ok F hm hb sc_put_back (fun ds o h => ?_) fun E ds o h => ?_
  · obtain ⟨_, _, rfl, _⟩ := h; rfl
  obtain ⟨ns, row, rfl, hr, rfl⟩ := h
  refine rb_cons (rs_asg 2 (ve_callT "list" T.b_list (va_cons (ve_var 0) va_nil)) ?_)
  refine rb_cons (rs_forX (xs := row) (inj := prD) (ix_list (ve_var 1)) (fun pre ρ => ρ = [.im (.tuple (ns.map .int)), .im (.list (row.map prD)), .ow ((putBack ns pre).map .int), .no, .no]) rfl (fun pre x post ρ1 hx hI => ?_) (fun ρ1 hI => ?_))
  · subst hI
    have hq := hr x (by rw [hx]; exact List.mem_append_right _ List.mem_cons_self)
    refine ⟨_, _, gd_tup (gds_cons (gd_name 3) (gds_cons (gd_name 4) gds_nil)), ?_⟩
    refine rb_cons (rs_seti 2 (j := x.1.toNat) (ve_var 4) (ve_var 3) ?_ ?_)
    · unfold ixN
      rw [if_pos hq.1, if_pos (by rw [List.length_map, putBack_len]; omega)]
    · refine rb_no 3 (rb_no 4 (rb_nil ?_))
      show _ = _
      unfold putBack
      rw [List.foldl_append, List.foldl_cons, List.foldl_nil, List.map_set]
      rfl
  subst hI
  refine rb_one (rs_ret (ve_callT "tuple" T.b_tuple (va_cons (ve_var 2) va_nil)) ?_)
  exact ⟨_, rfl, rfl⟩
def trD (rows : List (List (Int × Int))) : PyData := .list (rows.map fun r => .list (r.map prD))
theorem okRow_pr (r : List (Int × Int)) (h : r.length ≤ 100000) : okRow (.list (r.map prD)) := by
  refine ⟨by rw [List.length_map]; exact h, fun x hx => ?_⟩
  obtain ⟨q, _, rfl⟩ := List.mem_map.mp hx
  show 2 ≤ 100000
  decide
def ledBack (ns : List Int) (rows : List (List (Int × Int))) : List Int := rows.reverse.foldl putBack ns
theorem row_in {r : List (Int × Int)} {long : Int} (h : isRowB (.list (r.map prD)) long = true) : ∀ q ∈ r, 0 ≤ q.1 ∧ q.1 < long := by
  have h' : ((r.map prD).all (isPairB long) && _) = true := h
  rw [Bool.and_eq_true] at h'
  intro q hq
  have h2 := List.all_eq_true.mp h'.1 (prD q) (List.mem_map.mpr ⟨q, hq, rfl⟩)
  obtain ⟨q', e, hb, _⟩ := pair_int h2
  have e1 : q'.1 = q.1 := by
    unfold prD at e
    injection e with e
    injection e with e1 _
    injection e1 with e1
    exact e1.symm
  rw [← e1]
  exact hb
def G_led_back (ds : List PyData) (o : Oc) : Prop := ∃ (ns : List Int) (rows : List (List (Int × Int))), ds = [.tuple (ns.map .int), trD rows] ∧ SndOk ns ∧ rows.length ≤ 100000 ∧ (∀ r ∈ rows, r.length ≤ 100000 ∧ isRowB (.list (r.map prD)) ns.length = true) ∧ o = .ret (.tuple ((ledBack ns rows).map .int))
theorem foldl_len (rows : List (List (Int × Int))) : ∀ ns : List Int, (rows.foldl putBack ns).length = ns.length := by
  induction rows with
  | nil => intro ns; rfl
  | cons r rows ih =>
    intro ns
    rw [List.foldl_cons, ih, putBack_len]
theorem ok_led_back (M : Md) (T : Hd M) : Fn M 4 "led_back" G_led_back := by
  have F_need_sounds := ok_need_sounds M T
  have F_put_back := ok_put_back M T
  have F_is_row := ok_is_row M T
  obtain ⟨f, fd, F, hm, hb⟩ := T.d_led_back
  have nd := sc_led_back.nd
  refine fn_ok F hm hb sc_led_back (fun ds o h => ?_) fun E ds o h => ?_
  · obtain ⟨_, _, rfl, _⟩ := h; rfl
  obtain ⟨ns, rows, rfl, hS, hlr, hr, rfl⟩ := h
  have hl := hS.1
  refine rb_cons (rs_expr (ve_call (ds := [_]) F_need_sounds (va_cons (ve_tup (ds := [_]) (va_cons (ve_var 0) va_nil)) va_nil) (g_need1 hS)) ?_)
  refine rb_cons (rs_if (vt_is (VW.vt (vw_orP (vt_not (vt_val (ve_isi "list" T.b_isinstance T.b_list (ve_var 1)))) (vw_or1 (vt_not (vt_val (ve_callB "all" T.b_all (va_cons (ve_im (ve_compN (xs := rows) (inj := fun r => .list (r.map prD)) [("one", 3)] (ix_list (ve_var 1)) _ (fun x hx => ⟨_, _, by walk_at "kd inc", by rfl, (gd_name 3), (ve_call (ds := [_, _]) F_is_row (va_cons (ve_var 3) (va_cons (ve_callB "len" T.b_len (va_cons (ve_var 0) va_nil)) va_nil)) (g_is_row (okRow_pr x (hr x hx).1)))⟩))) va_nil))))))) (c' := false) ?_) (fun h => nomatch h) (fun h => ?_))
  · show (false || !(rows.all fun r => isRowB (.list (r.map prD)) ((ns.map PyData.int).length : Nat))) = false
    rw [List.length_map, List.all_eq_true.mpr fun r hx => (hr r hx).2]
    rfl
  refine rb_nil ?_
  refine rb_cons (rs_forX (xs := rows.reverse) (inj := fun r => .list (r.map prD)) (ix_list (ve_im (ve_is (ve_revL (ve_var 1) (.inl rfl)) (by rw [List.map_reverse])))) (fun pre ρ => ρ = [.im (.tuple ((pre.foldl putBack ns).map .int)), .im (trD rows), .no, .no]) rfl (fun pre x post ρ1 hx hI => ?_) (fun ρ1 hI => ?_))
  · subst hI
    have hm : x ∈ rows := List.mem_reverse.mp (by rw [hx]; exact List.mem_append_right _ List.mem_cons_self)
    refine ⟨_, _, gd_name 2, ?_⟩
    refine rb_cons (rs_asg 0 (ve_call (ds := [_, _]) F_put_back (va_cons (ve_var 0) (va_cons (ve_var 2) va_nil)) ⟨_, x, rfl, fun q hq => ?_, rfl⟩) ?_)
    · rw [foldl_len]
      exact row_in (hr x hm).2 q hq
    · refine rb_no 2 (rb_nil ?_)
      show _ = _
      rw [List.foldl_append]
      rfl
  subst hI
  exact rb_one (rs_ret (ve_var 0) ⟨_, rfl, rfl⟩)

/-! ### cleaning, plainly -/
def absZ (i : Int) : Int := if i < 0 then -i else i
inductive Stp where
  | clicks (near far : Nat)
  | hum (c : Nat)
  | hush (most long : Nat)
  | even
def winL (ns : List Int) (at' near : Nat) : List Int := (ns.drop (at' - near)).take (at' - (at' - near)) ++ (ns.drop (at' + 1)).take near
def midF (l : List Int) : Int := (srtI l).getD ((l.length - 1) / 2) 0
def clkAt (ns : List Int) (near far t : Nat) : Int := if winL ns t near ≠ [] ∧ absZ (ns.getD t 0 - midF (winL ns t near)) > far then midF (winL ns t near) else ns.getD t 0
def strideL (ns : List Int) (r c : Nat) : List Int := (List.range (strideN ns.length r c)).map fun k => ns.getD (r + k * c) 0
def humM (ns : List Int) (r c : Nat) : Int := halvedF (strideL ns r c).sum (strideL ns r c).length
def humAt (ns : List Int) (c t : Nat) : Int := cutOff (ns.getD t 0 - humM ns (t % c) c)
def smallAt (ns : List Int) (most t : Nat) : Bool := match ns[t]? with
  | some v => decide (absZ v ≤ most)
  | none => false
def runB4 (ns : List Int) (most : Nat) : Nat → Nat
  | 0 => 0
  | t + 1 => if smallAt ns most t then runB4 ns most t + 1 else 0
def runFr (ns : List Int) (most t : Nat) : Nat := ((ns.drop t).takeWhile fun v => decide (absZ v ≤ most)).length
def hushAt (ns : List Int) (most long t : Nat) : Int := if smallAt ns most t = true ∧ long ≤ runB4 ns most t + runFr ns most t then 0 else ns.getD t 0
def evenM (ns : List Int) : Int := if ns = [] then 0 else halvedF ns.sum ns.length
def stepL (ns : List Int) : Stp → List Int
  | .clicks near far => (List.range ns.length).map (clkAt ns near far)
  | .hum c => (List.range ns.length).map (humAt ns c)
  | .hush most long => (List.range ns.length).map (hushAt ns most long)
  | .even => ns.map fun v => cutOff (v - evenM ns)
theorem stepL_len (ns : List Int) (s : Stp) : (stepL ns s).length = ns.length := by
  cases s <;> simp [stepL]
/-! the window -/
theorem filter_range_lt (a b : Nat) (p : Nat → Bool) : ∀ n, (∀ t, a ≤ t → t < a + n → p t = decide (b ≤ t)) → ((List.range' a n).filter p) = List.range' (max a b) (a + n - max a b)
  | 0, _ => by
    have : a + 0 - max a b = 0 := by omega
    rw [this]
    rfl
  | n + 1, h => by
    have i := filter_range_lt a b p n fun t h1 h2 => h t h1 (by omega)
    rw [List.range'_1_concat, List.filter_append, i, List.filter_cons, h (a + n) (by omega) (by omega)]
    by_cases z : b ≤ a + n
    · rw [if_pos (decide_eq_true z), List.filter_nil, show a + (n + 1) - max a b = (a + n - max a b) + 1 by omega, List.range'_1_concat, show max a b + (a + n - max a b) = a + n by omega]
    · rw [if_neg (by rw [decide_eq_true_iff]; exact z), List.filter_nil, List.append_nil, show a + (n + 1) - max a b = 0 by omega, show a + n - max a b = 0 by omega]
theorem filter_range_le (a b : Nat) (p : Nat → Bool) : ∀ n, (∀ t, a ≤ t → t < a + n → p t = decide (t < b)) → ((List.range' a n).filter p) = List.range' a (min n (b - a))
  | 0, _ => by
    rw [Nat.zero_min]
    rfl
  | n + 1, h => by
    have i := filter_range_le a b p n fun t h1 h2 => h t h1 (by omega)
    rw [List.range'_1_concat, List.filter_append, i, List.filter_cons, h (a + n) (by omega) (by omega)]
    by_cases z : a + n < b
    · rw [if_pos (decide_eq_true z), List.filter_nil, show min (n + 1) (b - a) = n + 1 by omega, show min n (b - a) = n by omega, List.range'_1_concat]
    · rw [if_neg (by rw [decide_eq_true_iff]; exact z), List.filter_nil, List.append_nil, show min (n + 1) (b - a) = min n (b - a) by omega]
theorem map_getD_range (ns : List Int) (a k : Nat) (h : a + k ≤ ns.length) : (List.range' a k).map (fun t => ns.getD t 0) = (ns.drop a).take k := by
  apply List.ext_getElem?
  intro t
  rw [List.getElem?_map, List.getElem?_take, List.getElem?_drop]
  by_cases ht : t < k
  · rw [List.getElem?_range' ht, if_pos ht, List.getElem?_eq_getElem (show a + t < ns.length by omega)]
    simp [List.getD_eq_getElem?_getD, List.getElem?_eq_getElem (show a + t < ns.length by omega)]
  · rw [List.getElem?_eq_none (by simp; omega), if_neg ht]
    rfl
theorem win_eq (ns : List Int) (t near : Nat) (ht : t < ns.length) : ((List.range ns.length).filter fun s => !decide (s = t) && (decide (((t : Int) - near) ≤ s) && decide ((s : Int) ≤ t + near))).map (fun s => ns.getD s 0) = winL ns t near := by
  have e : List.range ns.length = List.range' 0 t ++ t :: List.range' (t + 1) (ns.length - t - 1) := by
    rw [List.range_eq_range', show ns.length = t + (1 + (ns.length - t - 1)) by omega, ← List.range'_append_1, Nat.zero_add, ← List.range'_append_1]
    rw [show t + (1 + (ns.length - t - 1)) - t - 1 = ns.length - t - 1 by omega]
    rfl
  rw [e, List.filter_append, List.filter_cons]
  have e1 : (List.range' 0 t).filter (fun s => !decide (s = t) && (decide (((t : Int) - near) ≤ s) && decide ((s : Int) ≤ t + near))) = List.range' (t - near) (t - (t - near)) := by
    rw [filter_range_lt 0 (t - near) _ t fun s h1 h2 => ?_]
    · rw [Nat.zero_max, Nat.zero_add]
    · rw [decide_eq_false (show ¬ s = t by omega), decide_eq_true (show (s : Int) ≤ t + near by omega), Bool.and_true, Bool.not_false, Bool.true_and, decide_eq_decide]
      omega
  have e2 : (List.range' (t + 1) (ns.length - t - 1)).filter (fun s => !decide (s = t) && (decide (((t : Int) - near) ≤ s) && decide ((s : Int) ≤ t + near))) = List.range' (t + 1) (min (ns.length - t - 1) near) := by
    rw [filter_range_le (t + 1) (t + 1 + near) _ (ns.length - t - 1) fun s h1 h2 => ?_]
    · rw [show t + 1 + near - (t + 1) = near by omega]
    · rw [decide_eq_false (show ¬ s = t by omega), decide_eq_true (show (t : Int) - near ≤ s by omega), Bool.not_false, Bool.true_and, Bool.true_and, decide_eq_decide]
      omega
  rw [e1, e2, if_neg (by simp), List.map_append, map_getD_range _ _ _ (by omega), map_getD_range _ _ _ (by omega)]
  unfold winL
  congr 1
  by_cases h : near ≤ ns.length - t - 1
  · rw [Nat.min_eq_right h]
  · rw [Nat.min_eq_left (by omega), List.take_of_length_le (by rw [List.length_drop]; omega), List.take_of_length_le (by rw [List.length_drop]; omega)]
theorem win_len (ns : List Int) (t near : Nat) : (winL ns t near).length ≤ near + near := by
  unfold winL
  rw [List.length_append, List.length_take, List.length_take]
  omega
theorem win_mem {ns : List Int} {t near : Nat} {v : Int} (h : v ∈ winL ns t near) : v ∈ ns := by
  unfold winL at h
  rcases List.mem_append.mp h with z | z
  · exact List.mem_of_mem_drop (List.mem_of_mem_take z)
  · exact List.mem_of_mem_drop (List.mem_of_mem_take z)
theorem mid_mem {l : List Int} (h : l ≠ []) : midF l ∈ l := by
  have h0 : 0 < l.length := List.length_pos_iff.mpr h
  have hp : (srtI l).Perm l := List.mergeSort_perm l _
  have hi : (l.length - 1) / 2 < (srtI l).length := by
    rw [hp.length_eq]
    omega
  unfold midF
  rw [List.getD_eq_getElem?_getD, List.getElem?_eq_getElem hi]
  exact hp.mem_iff.mp (List.getElem_mem hi)
/-! bounds -/
def InB4 (ns : List Int) : Prop := ∀ n ∈ ns, -2048 ≤ n ∧ n ≤ 2047
theorem getD_b {ns : List Int} (h : InB4 ns) (t : Nat) : -2048 ≤ ns.getD t 0 ∧ ns.getD t 0 ≤ 2047 := by
  rw [List.getD_eq_getElem?_getD]
  cases e : ns[t]? with
  | none => decide
  | some v => exact h v (List.mem_of_getElem? e)
theorem step_b {ns : List Int} (h : InB4 ns) (s : Stp) : InB4 (stepL ns s) := by
  intro n hn
  cases s with
  | clicks near far =>
    obtain ⟨t, _, rfl⟩ := List.mem_map.mp hn
    unfold clkAt
    split
    · rename_i z
      exact h _ (win_mem (mid_mem z.1))
    · exact getD_b h t
  | hum c =>
    obtain ⟨t, _, rfl⟩ := List.mem_map.mp hn
    exact cutOff_ok _
  | hush most long =>
    obtain ⟨t, _, rfl⟩ := List.mem_map.mp hn
    unfold hushAt
    split
    · decide
    · exact getD_b h t
  | even =>
    obtain ⟨t, _, rfl⟩ := List.mem_map.mp hn
    exact cutOff_ok _
/-! rows of small samples -/
theorem small_iff {ns : List Int} {most t : Nat} (h : t < ns.length) : smallAt ns most t = decide (absZ (ns.getD t 0) ≤ most) := by
  unfold smallAt
  rw [List.getD_eq_getElem?_getD, List.getElem?_eq_getElem h]
  rfl
theorem small_out {ns : List Int} {most t : Nat} (h : ns.length ≤ t) : smallAt ns most t = false := by
  unfold smallAt
  rw [List.getElem?_eq_none h]
theorem runFr_small {ns : List Int} {most t : Nat} (h : smallAt ns most t = true) : runFr ns most t = runFr ns most (t + 1) + 1 := by
  have ht : t < ns.length := by
    rcases Nat.lt_or_ge t ns.length with z | z
    · exact z
    · rw [small_out z] at h; cases h
  unfold runFr
  rw [small_iff ht, List.getD_eq_getElem?_getD, List.getElem?_eq_getElem ht] at h
  have h' : decide (absZ ns[t] ≤ most) = true := h
  rw [List.drop_eq_getElem_cons ht, List.takeWhile_cons, if_pos h']
  rfl
theorem runFr_big {ns : List Int} {most t : Nat} (h : smallAt ns most t = false) : runFr ns most t = 0 := by
  unfold runFr
  rcases Nat.lt_or_ge t ns.length with ht | ht
  · rw [small_iff ht, List.getD_eq_getElem?_getD, List.getElem?_eq_getElem ht] at h
    have h' : decide (absZ ns[t] ≤ most) = false := h
    rw [List.drop_eq_getElem_cons ht, List.takeWhile_cons, if_neg (by rw [h']; decide)]
    rfl
  · rw [List.drop_eq_nil_of_le ht]
    rfl
theorem runB4_le (ns : List Int) (most : Nat) : ∀ t, runB4 ns most t ≤ t
  | 0 => Nat.le_refl 0
  | t + 1 => by
    have := runB4_le ns most t
    unfold runB4
    split <;> omega
/-- within the row that ends ahead of a, all are small -/
theorem row_small {ns : List Int} {most : Nat} : ∀ {a t : Nat}, a - runB4 ns most a ≤ t → t < a → smallAt ns most t = true
  | 0, _, _, h => by omega
  | a + 1, t, h1, h2 => by
    unfold runB4 at h1
    by_cases z : smallAt ns most a = true
    · rw [if_pos z] at h1
      have := runB4_le ns most a
      by_cases e : t = a
      · rw [e]; exact z
      · exact row_small (a := a) (by omega) (by omega)
    · rw [if_neg z] at h1
      omega
theorem row_b4 {ns : List Int} {most : Nat} {a : Nat} : ∀ {t : Nat}, a - runB4 ns most a ≤ t → t ≤ a → runB4 ns most t = t - (a - runB4 ns most a) := by
  induction a with
  | zero =>
    intro t h1 h2
    have : t = 0 := by omega
    rw [this]
    rfl
  | succ a ih =>
    intro t h1 h2
    have ha := runB4_le ns most a
    by_cases e : t = a + 1
    · subst e
      have := runB4_le ns most (a + 1)
      omega
    · unfold runB4 at h1 ⊢
      by_cases z : smallAt ns most a = true
      · rw [if_pos z] at h1 ⊢
        have := ih (t := t) (by omega) (by omega)
        have h3 : runB4 ns most t = t - (a - runB4 ns most a) := this
        cases t with
        | zero => simp
        | succ t =>
          show (if smallAt ns most t = true then runB4 ns most t + 1 else 0) = _
          have h4 : (if smallAt ns most t = true then runB4 ns most t + 1 else 0) = t + 1 - (a - runB4 ns most a) := h3
          rw [h4]
          omega
      · rw [if_neg z] at h1
        omega
theorem row_fr {ns : List Int} {most a : Nat} (hb : smallAt ns most a = false) : ∀ (k : Nat), k ≤ runB4 ns most a → runFr ns most (a - k) = k
  | 0, _ => runFr_big hb
  | k + 1, h => by
    have hl := runB4_le ns most a
    have i := row_fr hb k (by omega)
    have hs := row_small (ns := ns) (most := most) (a := a) (t := a - (k + 1)) (by omega) (by omega)
    rw [runFr_small hs, show a - (k + 1) + 1 = a - k by omega, i]
/-- behind the scan of a places: all that is ahead of the open row stands as it shall, the rest as it was -/
def hushSt (ns : List Int) (most a : Nat) : Nat := a - runB4 ns most a
def hushTo (ns : List Int) (most long b : Nat) : List Int := (List.range ns.length).map fun t => if t < b then hushAt ns most long t else ns.getD t 0
theorem hushTo_0 (ns : List Int) (most long : Nat) : hushTo ns most long 0 = ns := by
  unfold hushTo
  apply List.ext_getElem?
  intro t
  rw [List.getElem?_map]
  by_cases ht : t < ns.length
  · rw [List.getElem?_range ht, List.getElem?_eq_getElem ht]
    simp [List.getD_eq_getElem?_getD, List.getElem?_eq_getElem ht]
  · rw [List.getElem?_eq_none (by simp; omega), List.getElem?_eq_none (l := ns) (by omega)]
    rfl
theorem hushTo_full (ns : List Int) (most long b : Nat) (h : ns.length ≤ b) : hushTo ns most long b = stepL ns (.hush most long) := by
  unfold hushTo stepL
  exact List.map_congr_left fun t ht => by
    have := List.mem_range.mp ht
    rw [if_pos (by omega)]
theorem hushTo_len (ns : List Int) (most long b : Nat) : (hushTo ns most long b).length = ns.length := by
  unfold hushTo
  rw [List.length_map, List.length_range]
theorem hush_at_big {ns : List Int} {most long t : Nat} (h : smallAt ns most t = false) : hushAt ns most long t = ns.getD t 0 := by
  unfold hushAt
  rw [if_neg (by rw [h]; exact fun z => nomatch z.1)]
theorem hush_at_row {ns : List Int} {most long a t : Nat} (hb : smallAt ns most a = false) (h1 : hushSt ns most a ≤ t) (h2 : t < a) : hushAt ns most long t = if long ≤ runB4 ns most a then 0 else ns.getD t 0 := by
  have hl := runB4_le ns most a
  unfold hushSt at h1
  have e1 := row_b4 h1 (Nat.le_of_lt h2)
  have e2 := row_fr hb (a - t) (by omega)
  rw [show a - (a - t) = t by omega] at e2
  unfold hushAt
  rw [e1, e2, row_small h1 h2]
  simp only [true_and]
  rw [show t - (a - runB4 ns most a) + (a - t) = runB4 ns most a by omega]
/-- the row ends at a: put to 0 if it is long enough -/
theorem hush_end {ns : List Int} {most long a : Nat} (hb : smallAt ns most a = false) : hushTo ns most long (a + 1) = if long ≤ runB4 ns most a then (hushTo ns most long (hushSt ns most a)).take (hushSt ns most a) ++ List.replicate (min a ns.length - hushSt ns most a) 0 ++ (hushTo ns most long (hushSt ns most a)).drop a else hushTo ns most long (hushSt ns most a) := by
  have hl := runB4_le ns most a
  apply List.ext_getElem?
  intro t
  by_cases ht : t < ns.length
  · have eL : ∀ b, (hushTo ns most long b)[t]? = some (if t < b then hushAt ns most long t else ns.getD t 0) := fun b => by
      unfold hushTo
      rw [List.getElem?_map, List.getElem?_range ht]
      rfl
    rw [eL]
    by_cases z : long ≤ runB4 ns most a
    · rw [if_pos z]
      have st : hushSt ns most a ≤ a := Nat.sub_le _ _
      have lt : ((hushTo ns most long (hushSt ns most a)).take (hushSt ns most a)).length = min (hushSt ns most a) ns.length := by rw [List.length_take, hushTo_len]
      by_cases c1 : t < hushSt ns most a
      · rw [List.append_assoc, List.getElem?_append_left (by rw [lt]; omega), List.getElem?_take, if_pos c1, eL, if_pos c1, if_pos (by omega)]
      · by_cases c2 : t < a
        · rw [List.append_assoc, List.getElem?_append_right (by rw [lt]; omega), lt, List.getElem?_append_left (by rw [List.length_replicate]; omega), List.getElem?_replicate, if_pos (by omega), if_pos (by omega), hush_at_row hb (by omega) c2, if_pos z]
        · rw [List.append_assoc, List.getElem?_append_right (by rw [lt]; omega), lt, List.getElem?_append_right (by rw [List.length_replicate]; omega), List.length_replicate, List.getElem?_drop,
            show a + (t - min (hushSt ns most a) ns.length - (min a ns.length - hushSt ns most a)) = t by omega, eL, if_neg c1]
          by_cases c3 : t = a
          · subst c3
            rw [if_pos (by omega), hush_at_big hb]
          · rw [if_neg (by omega)]
    · rw [if_neg z, eL]
      by_cases c1 : t < hushSt ns most a
      · rw [if_pos c1, if_pos (by unfold hushSt at c1; omega)]
      · rw [if_neg c1]
        by_cases c2 : t < a
        · rw [if_pos (by omega), hush_at_row hb (by omega) c2, if_neg z]
        · by_cases c3 : t = a
          · subst c3
            rw [if_pos (by omega), hush_at_big hb]
          · rw [if_neg (by omega)]
  · have n1 : ∀ b, (hushTo ns most long b)[t]? = none := fun b => List.getElem?_eq_none (by rw [hushTo_len]; omega)
    rw [n1]
    split
    · symm
      apply List.getElem?_eq_none
      rw [List.length_append, List.length_append, List.length_take, List.length_drop, List.length_replicate, hushTo_len]
      unfold hushSt
      omega
    · rw [n1]
theorem hush_go {ns : List Int} {most a : Nat} (hb : smallAt ns most a = true) : hushSt ns most (a + 1) = hushSt ns most a := by
  have := runB4_le ns most a
  unfold hushSt
  rw [show runB4 ns most (a + 1) = runB4 ns most a + 1 from if_pos hb]
  omega
theorem hush_new {ns : List Int} {most a : Nat} (hb : smallAt ns most a = false) : hushSt ns most (a + 1) = a + 1 := by
  unfold hushSt
  rw [show runB4 ns most (a + 1) = 0 from if_neg (by rw [hb]; decide)]
  rfl

/-! ### trails, plainly -/
def trailL (b a : List Int) : List (Int × Int) := ((b.zip a).zipIdx.filter fun q => !decide (q.1.1 = q.1.2)).map fun q => ((q.2 : Int), q.1.1)
theorem trail_from : ∀ (b a pre : List Int), b.length = a.length → putBack (pre ++ a) ((((b.zip a).zipIdx pre.length).filter fun q => !decide (q.1.1 = q.1.2)).map fun q => ((q.2 : Int), q.1.1)) = pre ++ b
  | [], [], pre, _ => by
    rw [List.append_nil]
    rfl
  | [], _ :: _, _, h => by cases h
  | _ :: _, [], _, h => by cases h
  | x :: b, y :: a, pre, h => by
    have i := trail_from b a (pre ++ [x]) (by simpa using h)
    rw [List.append_assoc, List.append_assoc, List.length_append, List.length_singleton] at i
    rw [List.zip_cons_cons, List.zipIdx_cons, List.filter_cons]
    by_cases e : x = y
    · subst e
      rw [if_neg (by simp)]
      exact i
    · rw [if_pos (by simp [e]), List.map_cons]
      show putBack ((pre ++ y :: a).set (pre.length : Int).toNat x) _ = _
      rw [Int.toNat_natCast, List.set_append_right _ _ (Nat.le_refl _), Nat.sub_self]
      exact i
theorem putBack_trail {b a : List Int} (h : b.length = a.length) : putBack a (trailL b a) = b := by
  have := trail_from b a [] h
  exact this
theorem trail_len (b a : List Int) : (trailL b a).length ≤ b.length := by
  unfold trailL
  rw [List.length_map]
  refine Nat.le_trans (List.length_filter_le _ _) ?_
  rw [List.length_zipIdx, List.length_zip]
  omega
theorem trail_mem {b a : List Int} {q : Int × Int} (h : q ∈ trailL b a) : 0 ≤ q.1 ∧ q.1 < b.length ∧ q.2 ∈ b := by
  obtain ⟨⟨⟨x, y⟩, k⟩, h1, rfl⟩ := List.mem_map.mp h
  have h2 := (List.mem_filter.mp h1).1
  rw [List.mem_zipIdx_iff_getElem?] at h2
  have h4 := (List.getElem?_zip_eq_some.mp h2).1
  obtain ⟨z, _⟩ := List.getElem?_eq_some_iff.mp h4
  exact ⟨Int.natCast_nonneg k, Int.ofNat_lt.mpr z, List.mem_of_getElem? h4⟩
theorem zipIdx_rise {α : Type} : ∀ (l : List α) (n : Nat), (l.zipIdx n).Pairwise fun p q => p.2 < q.2
  | [], _ => .nil
  | x :: l, n => by
    rw [List.zipIdx_cons]
    refine .cons (fun q hq => ?_) (zipIdx_rise l (n + 1))
    have := List.le_snd_of_mem_zipIdx hq
    show n < q.2
    omega
theorem trail_rise (b a : List Int) : (trailL b a).Pairwise fun p q => p.1 < q.1 := by
  unfold trailL
  rw [List.pairwise_map]
  refine ((zipIdx_rise (b.zip a) 0).filter _).imp fun {p q} h => ?_
  exact Int.ofNat_lt.mpr h
theorem rise_zip {α : Type} {R : α → α → Prop} : ∀ {l : List α}, l.Pairwise R → ∀ q ∈ l.zip (l.drop 1), R q.1 q.2
  | [], _, _, h => nomatch h
  | [_], _, _, h => nomatch h
  | x :: y :: l, h, q, hq => by
    rw [List.drop_succ_cons, List.drop_zero, List.zip_cons_cons] at hq
    rcases List.mem_cons.mp hq with rfl | z
    · exact (List.pairwise_cons.mp h).1 y List.mem_cons_self
    · exact rise_zip (l := y :: l) (List.pairwise_cons.mp h).2 q z
theorem trail_same (b : List Int) : trailL b b = [] := by
  unfold trailL
  rw [List.filter_eq_nil_iff.mpr ?_, List.map_nil]
  intro q hq
  have h2 : q.1 ∈ b.zip b := by
    rw [List.mem_zipIdx_iff_getElem?] at hq
    exact List.mem_of_getElem? hq
  have : ∀ (l : List Int), ∀ p ∈ l.zip l, p.1 = p.2 := by
    intro l
    induction l with
    | nil => exact fun p h => nomatch h
    | cons x l ih =>
      intro p hp
      rw [List.zip_cons_cons] at hp
      rcases List.mem_cons.mp hp with rfl | z
      · rfl
      · exact ih p z
  simp [this b _ h2]
/-! steps, one behind another -/
def cleanS (ns : List Int) : List Stp → List Int
  | [] => ns
  | s :: ss => cleanS (stepL ns s) ss
def cleanT (ns : List Int) : List Stp → List (List (Int × Int))
  | [] => []
  | s :: ss => trailL ns (stepL ns s) :: cleanT (stepL ns s) ss
theorem cleanS_app : ∀ (ss : List Stp) (ns : List Int) (s : Stp), cleanS ns (ss ++ [s]) = stepL (cleanS ns ss) s
  | [], _, _ => rfl
  | x :: ss, ns, s => cleanS_app ss (stepL ns x) s
theorem cleanT_app : ∀ (ss : List Stp) (ns : List Int) (s : Stp), cleanT ns (ss ++ [s]) = cleanT ns ss ++ [trailL (cleanS ns ss) (stepL (cleanS ns ss) s)]
  | [], _, _ => rfl
  | x :: ss, ns, s => congrArg (trailL ns (stepL ns x) :: ·) (cleanT_app ss (stepL ns x) s)
theorem cleanS_len : ∀ (ss : List Stp) (ns : List Int), (cleanS ns ss).length = ns.length
  | [], _ => rfl
  | x :: ss, ns => (cleanS_len ss (stepL ns x)).trans (stepL_len ns x)
theorem cleanT_len : ∀ (ss : List Stp) (ns : List Int), (cleanT ns ss).length = ss.length
  | [], _ => rfl
  | x :: ss, ns => congrArg (· + 1) (cleanT_len ss (stepL ns x))
theorem cleanS_b : ∀ (ss : List Stp) {ns : List Int}, InB4 ns → InB4 (cleanS ns ss)
  | [], _, h => h
  | x :: ss, _, h => cleanS_b ss (step_b h x)
theorem cleanT_drop : ∀ (ss : List Stp) (ns : List Int) (i : Nat), (cleanT ns ss).drop i = cleanT (cleanS ns (ss.take i)) (ss.drop i)
  | [], _, i => by simp [cleanT]
  | x :: ss, ns, 0 => rfl
  | x :: ss, ns, i + 1 => cleanT_drop ss (stepL ns x) i
theorem cleanS_drop : ∀ (ss : List Stp) (ns : List Int) (i : Nat), cleanS ns ss = cleanS (cleanS ns (ss.take i)) (ss.drop i)
  | [], _, i => by simp [cleanS]
  | x :: ss, ns, 0 => rfl
  | x :: ss, ns, i + 1 => cleanS_drop ss (stepL ns x) i
theorem cleanT_rows : ∀ (ss : List Stp) {ns : List Int}, InB4 ns → ∀ r ∈ cleanT ns ss, r.length ≤ ns.length ∧ (∀ q ∈ r, (0 ≤ q.1 ∧ q.1 < ns.length) ∧ -2048 ≤ q.2 ∧ q.2 ≤ 2047) ∧ r.Pairwise fun p q => p.1 < q.1
  | [], _, _, _, h => nomatch h
  | x :: ss, ns, hb, r, hr => by
    rcases List.mem_cons.mp hr with rfl | z
    · refine ⟨trail_len _ _, fun q hq => ?_, trail_rise _ _⟩
      obtain ⟨a, b, c⟩ := trail_mem hq
      exact ⟨⟨a, b⟩, hb _ c⟩
    · have := cleanT_rows ss (step_b hb x) r z
      rw [stepL_len] at this
      exact this
theorem led_clean : ∀ (ss : List Stp) (ns : List Int), ledBack (cleanS ns ss) (cleanT ns ss) = ns
  | [], _ => rfl
  | x :: ss, ns => by
    have i := led_clean ss (stepL ns x)
    unfold ledBack at i ⊢
    show ((trailL ns (stepL ns x) :: cleanT (stepL ns x) ss).reverse).foldl putBack (cleanS (stepL ns x) ss) = ns
    rw [List.reverse_cons, List.foldl_append, i]
    exact putBack_trail (stepL_len ns x).symm
theorem led_from (ss : List Stp) (ns : List Int) (i : Nat) : ledBack (cleanS ns ss) ((cleanT ns ss).drop i) = cleanS ns (ss.take i) := by
  rw [cleanT_drop, cleanS_drop ss ns i]
  exact led_clean _ _
/-! hum: place by place -/
def humTo (ns : List Int) (c R k : Nat) : List Int := (List.range ns.length).map fun t => if t % c < R ∨ (t % c = R ∧ t / c < k) then humAt ns c t else ns.getD t 0
theorem humTo_len (ns : List Int) (c R k : Nat) : (humTo ns c R k).length = ns.length := by
  unfold humTo
  rw [List.length_map, List.length_range]
theorem humTo_0 (ns : List Int) (c : Nat) : humTo ns c 0 0 = ns := by
  unfold humTo
  apply List.ext_getElem?
  intro t
  rw [List.getElem?_map]
  by_cases ht : t < ns.length
  · rw [List.getElem?_range ht, List.getElem?_eq_getElem ht]
    simp [List.getD_eq_getElem?_getD, List.getElem?_eq_getElem ht]
  · rw [List.getElem?_eq_none (by simp; omega), List.getElem?_eq_none (l := ns) (by omega)]
    rfl
theorem humTo_set (ns : List Int) {c R k : Nat} (hc : R < c) : (humTo ns c R k).set (R + k * c) (cutOff (ns.getD (R + k * c) 0 - humM ns R c)) = humTo ns c R (k + 1) := by
  have m1 : (R + k * c) % c = R := by rw [Nat.add_mul_mod_self_right, Nat.mod_eq_of_lt hc]
  have m2 : (R + k * c) / c = k := by rw [Nat.add_mul_div_right _ _ (by omega), Nat.div_eq_of_lt hc, Nat.zero_add]
  unfold humTo
  apply List.ext_getElem?
  intro t
  rw [List.getElem?_set]
  by_cases ht : t < ns.length
  · rw [List.getElem?_map, List.getElem?_map, List.getElem?_range ht]
    by_cases z : R + k * c = t
    · subst z
      rw [if_pos rfl, List.length_map, List.length_range, if_pos ht]
      show _ = some (if _ then _ else _)
      rw [if_pos (.inr ⟨m1, by rw [m2]; omega⟩)]
      unfold humAt
      rw [m1]
    · rw [if_neg z]
      show some (if _ then _ else _) = some (if _ then _ else _)
      congr 1
      have : (t % c < R ∨ (t % c = R ∧ t / c < k)) ↔ (t % c < R ∨ (t % c = R ∧ t / c < k + 1)) := by
        constructor
        · rintro (h | ⟨h1, h2⟩)
          · exact .inl h
          · exact .inr ⟨h1, by omega⟩
        · rintro (h | ⟨h1, h2⟩)
          · exact .inl h
          · refine .inr ⟨h1, ?_⟩
            have : t / c ≠ k := fun e => z (by rw [← h1, ← e, Nat.mul_comm]; exact (Nat.mod_add_div t c))
            omega
      simp only [this]
  · rw [List.getElem?_eq_none (l := List.map _ _) (i := t) (by simp; omega), List.getElem?_eq_none (l := List.map _ _) (i := t) (by simp; omega)]
    by_cases z : R + k * c = t
    · rw [if_pos z, if_neg (by simp; omega)]
    · rw [if_neg z]
theorem humTo_next (ns : List Int) {c R : Nat} (hR : R < ns.length) (hc : R < c) : humTo ns c R (strideN ns.length R c) = humTo ns c (R + 1) 0 := by
  unfold humTo
  refine List.map_congr_left fun t ht => ?_
  have htn := List.mem_range.mp ht
  have : (t % c < R ∨ (t % c = R ∧ t / c < strideN ns.length R c)) ↔ (t % c < R + 1 ∨ (t % c = R + 1 ∧ t / c < 0)) := by
    constructor
    · rintro (h | ⟨h1, h2⟩)
      · exact .inl (by omega)
      · exact .inl (by omega)
    · generalize hd : t / c = d
      rintro (h | ⟨h1, h2⟩)
      · by_cases e : t % c = R
        · refine .inr ⟨e, ?_⟩
          unfold strideN
          rw [if_pos hR]
          have e2 := Nat.mod_add_div t c
          rw [e, hd] at e2
          have : d ≤ (ns.length - R - 1) / c := (Nat.le_div_iff_mul_le (by omega)).mpr (by rw [Nat.mul_comm]; omega)
          exact Nat.lt_succ_of_le this
        · exact .inl (by omega)
      · exact absurd h2 (Nat.not_lt_zero _)
  simp only [this]
theorem humTo_full (ns : List Int) {c R : Nat} (h : R = min c ns.length) (hc : 0 < c) : humTo ns c R 0 = stepL ns (.hum c) := by
  unfold humTo stepL
  refine List.map_congr_left fun t ht => ?_
  have htn := List.mem_range.mp ht
  have h1 := Nat.mod_lt t hc
  have h2 := Nat.mod_le t c
  rw [if_pos (.inl (by omega))]
theorem stride_lt {n r c k : Nat} (hc : 0 < c) (h : k < strideN n r c) : r + k * c < n := by
  unfold strideN at h
  split at h
  · have h1 : k ≤ (n - r - 1) / c := by omega
    have h2 := (Nat.le_div_iff_mul_le hc).mp h1
    omega
  · omega
theorem stride_le (n r c : Nat) : strideN n r c ≤ n := by
  unfold strideN
  split
  · have := Nat.div_le_self (n - r - 1) c
    omega
  · omega
theorem stride_pos {n r c : Nat} (h : r < n) : 0 < strideN n r c := by
  unfold strideN
  rw [if_pos h]
  exact Nat.succ_pos _

/-! ### the walks of cleaning -/
theorem g_halvedF {t b : Int} (h : 0 < b ∧ b < 100000) : G_halved [.int t, .int b] (.ret (.int (halvedF t b))) := ⟨t, b, rfl, h, rfl⟩
theorem g_cut_offF {n : Int} : G_cut_off [.int n] (.ret (.int (cutOff n))) := ⟨n, rfl, rfl⟩
theorem sd_intsNN {S : Sh} {ns : List Int} {i j : Int} (h0 : 0 ≤ i) (h1 : 0 ≤ j) : SD S (.im (.tuple (ns.map .int))) (some i) (some j) (.im (.tuple (((ns.drop i.toNat).take (j.toNat - i.toNat)).map .int))) := by
  obtain ⟨a, rfl⟩ := Int.eq_ofNat_of_zero_le h0
  obtain ⟨b, rfl⟩ := Int.eq_ofNat_of_zero_le h1
  have e := cut_nn ns a b
  have := sd_tup (S := S) (ds := ns.map .int) (lo := some (a : Int)) (hi := some (b : Int))
  rw [e] at this
  exact this
theorem xd_intsO {S : Sh} {ns : List Int} {i : Int} (h0 : 0 ≤ i) (h1 : i < ns.length) : XD S (.ow (ns.map .int)) (.im (.int i)) (.im (.int (ns.getD i.toNat 0))) := xd_lst (.inr (.inr rfl)) (at_ints h0 h1)
theorem od_neT0 {S : Sh} {ns : List Int} : OD S (compareOp .NotEq) (.im (.tuple (ns.map .int))) (.im (.tuple [])) (.im (.bool (!decide (ns = [])))) := od_neT (ms := [])
theorem od_catI {S : Sh} {a b : List Int} (h : a.length + b.length ≤ 100000) : OD S (binaryOp .Add) (.im (.tuple (a.map .int))) (.im (.tuple (b.map .int))) (.im (.tuple ((a ++ b).map .int))) := by
  rw [List.map_append]
  exact od_catT (by rw [List.length_map, List.length_map]; exact h)
def G_middle (ds : List PyData) (o : Oc) : Prop := ∃ l : List Int, ds = [.tuple (l.map .int)] ∧ l ≠ [] ∧ l.length ≤ 1000 ∧ o = .ret (.int (midF l))
theorem g_middle {l : List Int} (h0 : l ≠ []) (h1 : l.length ≤ 1000) : G_middle [.tuple (l.map .int)] (.ret (.int (midF l))) := ⟨l, rfl, h0, h1, rfl⟩
theorem srtI_len (l : List Int) : (srtI l).length = l.length := (List.mergeSort_perm l _).length_eq
local macro_rules | `(tactic| walk_at "s") => `(tactic| ((refine extk rfl ?_ rfl ?_; (first | omega | decide | (simp; done) | (simp; omega)))))
local macro_rules | `(tactic| walk_at "s") => `(tactic| ((refine appk rfl ?_ rfl ?_; (first | omega | decide | (simp; done) | (simp; omega)))))
local macro_rules | `(tactic| walk_at "s") => `(tactic| (refine rpar2 ?_))
local macro_rules | `(tactic| walk_at "s") => `(tactic| (refine ⟨Nat.le_of_ble_eq_true rfl, ?_⟩))
local macro_rules | `(tactic| walk_at "s") => `(tactic| (exact ⟨_, rfl, rfl⟩))
local macro_rules | `(tactic| walk_at "s") => `(tactic| (exact ⟨rfl, rfl⟩))
local macro_rules | `(tactic| walk_at "s") => `(tactic| ((refine setk (by rfl) ?_ rfl ?_)))
local macro_rules | `(tactic| walk_at "s") => `(tactic| (((with_reducible show ∃ ds0, _ = some (Sl.ow ds0) ∧ CE _ _ _ _ _ _) <;> refine ⟨_, rfl, ?_⟩)))
local macro_rules | `(tactic| walk_at "s") => `(tactic| (((with_reducible show Pst.bk _ _) <;> dsimp only)))
local macro_rules | `(tactic| walk_at "s") => `(tactic| (((with_reducible show Pst.ct _ _) <;> dsimp only)))
local macro_rules | `(tactic| walk_at "s") => `(tactic| (((with_reducible show Pst.nx _ _) <;> dsimp only)))
local macro_rules | `(tactic| walk_at "s") => `(tactic| (((with_reducible show RB _ _ _ _) <;> ((try dsimp only [List.set]); first | refine rc_asg (by with_reducible (repeat (first | exact Ix.z | apply Ix.s))) ?_ (by assumption) (by first | exact Or.inl rfl | exact Or.inr rfl) | refine rc_if ?_ | refine rc_retOw (by with_reducible (repeat (first | exact Ix.z | apply Ix.s))) (by rfl) (by first | exact Or.inl rfl | exact Or.inr (Or.inl rfl) | exact Or.inr (Or.inr rfl)) ?_ | refine rc_ret ?_ | refine rc_app (by with_reducible (repeat (first | exact Ix.z | apply Ix.s))) (by rfl) (by first | exact Or.inl rfl | exact Or.inr (Or.inl rfl) | exact Or.inr (Or.inr rfl)) ?_ | refine rc_ext (by with_reducible (repeat (first | exact Ix.z | apply Ix.s))) (by rfl) (by first | exact Or.inl rfl | exact Or.inr (Or.inl rfl) | exact Or.inr (Or.inr rfl)) ?_ | refine rc_expr ?_ | refine rx_add (by with_reducible (repeat (first | exact Ix.z | apply Ix.s))) (by rfl) ?_ (by assumption) (by first | exact Or.inl rfl | exact Or.inr rfl) | refine rx_sub (by with_reducible (repeat (first | exact Ix.z | apply Ix.s))) (by rfl) ?_ (by assumption) (by first | exact Or.inl rfl | exact Or.inr rfl) | refine rc_par (by with_reducible (repeat (first | exact Ix.z | apply Ix.s))) (by with_reducible (repeat (first | exact Ix.z | apply Ix.s))) ?_ (by assumption) | refine rx_set (by with_reducible (repeat (first | exact Ix.z | apply Ix.s))) (by first | exact Or.inl rfl | exact Or.inr (Or.inl rfl) | exact Or.inr (Or.inr rfl)) ?_ | refine rc_pass ?_ | refine rc_cont ?_ | refine rc_break ?_ | refine rb_nil ?_))))
local macro_rules | `(tactic| walk_at "s") => `(tactic| (((with_reducible show (_ = true → _) ∧ (_ = false → _)) <;> first | with_reducible refine if_not ?_ | ((with_reducible refine if_lt (fun h => ?_) (fun h => ?_)) <;> first | (exfalso; omega) | contradiction | exact absurd h (by decide) | exact absurd h (of_decide_eq_false rfl) | exact absurd (of_decide_eq_true rfl) h | skip) | ((with_reducible refine if_le (fun h => ?_) (fun h => ?_)) <;> first | (exfalso; omega) | contradiction | exact absurd h (by decide) | exact absurd h (of_decide_eq_false rfl) | exact absurd (of_decide_eq_true rfl) h | skip) | ((with_reducible refine if_gt (fun h => ?_) (fun h => ?_)) <;> first | (exfalso; omega) | contradiction | exact absurd h (by decide) | exact absurd h (of_decide_eq_false rfl) | exact absurd (of_decide_eq_true rfl) h | skip) | ((with_reducible refine if_ge (fun h => ?_) (fun h => ?_)) <;> first | (exfalso; omega) | contradiction | exact absurd h (by decide) | exact absurd h (of_decide_eq_false rfl) | exact absurd (of_decide_eq_true rfl) h | skip) | ((with_reducible refine if_eq (fun h => ?_) (fun h => ?_)) <;> first | (exfalso; omega) | contradiction | exact absurd h (by decide) | exact absurd h (of_decide_eq_false rfl) | exact absurd (of_decide_eq_true rfl) h | skip) | ((with_reducible refine if_ne (fun h => ?_) (fun h => ?_)) <;> first | (exfalso; omega) | contradiction | exact absurd h (by decide) | exact absurd h (of_decide_eq_false rfl) | exact absurd (of_decide_eq_true rfl) h | skip) | ((with_reducible refine if_dec (fun h => ?_) (fun h => ?_)) <;> first | (exfalso; omega) | contradiction | exact absurd h (by decide) | exact absurd h (of_decide_eq_false rfl) | exact absurd (of_decide_eq_true rfl) h | skip) | with_reducible refine if_and ?_ | with_reducible refine ifb_true ?_ | with_reducible refine ifb_false ?_)))
local macro_rules | `(tactic| walk_at "s") => `(tactic| (((with_reducible show CW _ _ _ _ _ _) <;> first | refine cw_and ?_ | refine cw_or ?_ | refine cw_and1 ?_ | refine cw_or1 ?_)))
local macro_rules | `(tactic| walk_at "s") => `(tactic| (((with_reducible show CT _ _ _ _ _ _) <;> first | refine ct_cmp ?_ (by first | exact nomark _ | rfl) | refine ct_chain ?_ | refine ct_not ?_ | (refine ct_w ?_; first | refine cw_and ?_ | refine cw_or ?_) | refine ct_val ?_)))
local macro_rules | `(tactic| walk_at "s") => `(tactic| (((with_reducible show CK _ (.type "list") _ _) <;> first | refine ck (cd_list (.inl rfl)) ?_ | refine ck (cd_list (.inr (.inl rfl))) ?_ | refine ck (cd_list (.inr (.inr (.inl rfl)))) ?_ | refine ck (cd_list (.inr (.inr (.inr rfl)))) ?_)))
local macro_rules | `(tactic| walk_at "s") => `(tactic| (((with_reducible show CK _ (.type "tuple") _ _) <;> first | refine ck (cd_tuple (.inl rfl)) ?_ | refine ck (cd_tuple (.inr (.inl rfl))) ?_ | refine ck (cd_tuple (.inr (.inr rfl))) ?_)))
local macro_rules | `(tactic| walk_at "s") => `(tactic| (((with_reducible show CK _ (.builtin "sum") _ _) <;> first | refine ck (cd_sumM rfl) ?_)))
local macro_rules | `(tactic| walk_at "s") => `(tactic| (((with_reducible show CK _ (.builtin "any") _ _) <;> first | refine ck (cd_anyM rfl) ?_)))
local macro_rules | `(tactic| walk_at "s") => `(tactic| (((with_reducible show CK _ (.builtin "all") _ _) <;> first | refine ck (cd_allM rfl) ?_)))
local macro_rules | `(tactic| walk_at "s") => `(tactic| (((with_reducible show CK _ (.builtin "min") [_, _] _) <;> first | refine ck cd_min2 ?_)))
local macro_rules | `(tactic| walk_at "s") => `(tactic| (((with_reducible show CK _ (.builtin "max") [_, _] _) <;> first | refine ck cd_max2 ?_)))
local macro_rules | `(tactic| walk_at "s") => `(tactic| (((with_reducible show CK _ (.builtin "abs") _ _) <;> first | refine ck cd_abs ?_)))
local macro_rules | `(tactic| walk_at "s") => `(tactic| (((with_reducible show CK _ (.builtin "len") _ _) <;> first | refine ck (cd_len rfl rfl (by first | omega | decide | (simp; done) | (simp; omega))) ?_)))
local macro_rules | `(tactic| walk_at "s") => `(tactic| (((with_reducible show SK2 _ (.im (.str _)) _ _ _) <;> first | refine sk2 (sd_str (by first | omega | decide | (simp; done) | (simp; omega))) ?_)))
local macro_rules | `(tactic| walk_at "s") => `(tactic| (((with_reducible show SK2 _ (.ow _) _ _ _) <;> first | refine sk2 (sd_lst (.inr (.inr rfl))) ?_)))
local macro_rules | `(tactic| walk_at "s") => `(tactic| (((with_reducible show SK2 _ (.al _) _ _ _) <;> first | refine sk2 (sd_lst (.inr (.inl rfl))) ?_)))
local macro_rules | `(tactic| walk_at "s") => `(tactic| (((with_reducible show SK2 _ (.im (.list _)) _ _ _) <;> first | refine sk2 (sd_lst (.inl rfl)) ?_)))
local macro_rules | `(tactic| walk_at "s") => `(tactic| (((with_reducible show SK2 _ (.im (.tuple _)) _ _ _) <;> first | refine sk2 sd_tup ?_)))
local macro_rules | `(tactic| walk_at "s") => `(tactic| (((with_reducible show XK2 _ (.ow _) (.im (.int _)) _) <;> first | refine xk2 (xd_lst (.inr (.inr rfl)) rfl) ?_)))
local macro_rules | `(tactic| walk_at "s") => `(tactic| (((with_reducible show XK2 _ (.al _) (.im (.int _)) _) <;> first | refine xk2 (xd_lst (.inr (.inl rfl)) rfl) ?_)))
local macro_rules | `(tactic| walk_at "s") => `(tactic| (((with_reducible show XK2 _ (.im (.list _)) (.im (.int _)) _) <;> first | refine xk2 (xd_lst (.inl rfl) rfl) ?_)))
local macro_rules | `(tactic| walk_at "s") => `(tactic| (((with_reducible show XK2 _ (.im (.tuple _)) (.im (.int _)) _) <;> first | refine xk2 (xd_tup (atI_nat (j := 0) rfl)) ?_ | refine xk2 (xd_tup (atI_nat (j := 1) rfl)) ?_ | refine xk2 (xd_tup (atI_nat (j := 2) rfl)) ?_ | refine xk2 (xd_tup rfl) ?_)))
local macro_rules | `(tactic| walk_at "s") => `(tactic| (((with_reducible show OK2 _ (binaryOp .Add) (.im (.tuple _)) (.im (.tuple _)) _) <;> first | refine ok2 (od_catT (by first | omega | decide | (simp; done) | (simp; omega))) ?_)))
local macro_rules | `(tactic| walk_at "s") => `(tactic| (((with_reducible show OK2 _ (compareOp _) (.im (.tuple (List.map _ _))) (.im (.tuple (List.map _ _))) _) <;> first | refine ok2 od_neT ?_ | refine ok2 od_eqT ?_)))
local macro_rules | `(tactic| walk_at "s") => `(tactic| (((with_reducible show OK2 _ (compareOp .IsNot) _ (.im .none) _) <;> first | refine ok2 (od_notN rfl) ?_)))
local macro_rules | `(tactic| walk_at "s") => `(tactic| (((with_reducible show OK2 _ (compareOp .Is) _ (.im .none) _) <;> first | refine ok2 (od_isN rfl) ?_)))
local macro_rules | `(tactic| walk_at "s") => `(tactic| (((with_reducible show OK2 _ (compareOp _) (.im (.bool _)) (.im (.bool _)) _) <;> first | refine ok2 od_isB ?_ | refine ok2 od_notB ?_)))
local macro_rules | `(tactic| walk_at "s") => `(tactic| (((with_reducible show OK2 _ (compareOp _) (.im (.str _)) (.im (.str _)) _) <;> first | refine ok2 od_eqS ?_ | refine ok2 od_neS ?_)))
local macro_rules | `(tactic| walk_at "s") => `(tactic| (((with_reducible show OK2 _ (binaryOp _) (.im (.int _)) (.im (.int _)) _) <;> first | refine ok2 od_add ?_ | refine ok2 od_sub ?_ | refine ok2 (od_mulL (by first | omega | decide | (simp; done) | (simp; omega))) ?_ | refine ok2 (od_mulR (by first | omega | decide | (simp; done) | (simp; omega))) ?_ | refine ok2 (od_fdiv (by first | omega | decide | (simp; done) | (simp; omega))) ?_ | refine ok2 (od_mod (by first | omega | decide | (simp; done) | (simp; omega))) ?_)))
local macro_rules | `(tactic| walk_at "s") => `(tactic| (((with_reducible show OK2 _ (compareOp _) (.im (.int _)) (.im (.int _)) _) <;> first | refine ok2 od_cmpI ?_)))
local macro_rules | `(tactic| walk_at "s") => `(tactic| ((refine' chk (ve_ce ?_) ?_)))
local macro_rules | `(tactic| walk_at "s") => `(tactic| ((refine ink ?_)))
local macro_rules | `(tactic| walk_at "s") => `(tactic| ((refine bok ?_)))
local macro_rules | `(tactic| walk_at "s") => `(tactic| ((refine stk ?_)))
local macro_rules | `(tactic| walk_at "s") => `(tactic| ((refine iskA ?_)))
local macro_rules | `(tactic| walk_at "s") => `(tactic| ((refine isk ?_)))
local macro_rules | `(tactic| walk_at "s") => `(tactic| (((with_reducible show ImK _ _) <;> first | refine imk ?_ | refine imk_ow ?_)))
local macro_rules | `(tactic| walk_at "s") => `(tactic| (((with_reducible show CO _ _ _ _ _ _) <;> first | refine co_none ?_ | refine co_int ?_)))
local macro_rules | `(tactic| walk_at "s") => `(tactic| (((with_reducible show CI _ _ _ _ _ _) <;> first | refine ci_cons ?_ | refine ci_nil ?_)))
local macro_rules | `(tactic| walk_at "s") => `(tactic| (((with_reducible show CA _ _ _ _ _ _) <;> first | refine ca_cons ?_ | refine ca_nil ?_)))
local macro_rules | `(tactic| walk_at "s") => `(tactic| (((with_reducible show CE _ _ _ _ _ _) <;> first | refine ce_if ?_ | refine ce_not ?_ | refine ce_neg ?_ | refine ce_and ?_ | refine ce_or ?_ | refine ce_one ?_ | refine ce_tup ?_ | refine ce_lst ?_)))
local macro_rules | `(tactic| walk_at "s") => `(tactic| (((with_reducible show CE _ _ _ (.Call _ _ _ _) _ _) <;> first | refine is_int (by with_reducible rfl) (by with_reducible rfl) (by exact Hd.b_isinstance (by assumption)) (by exact Hd.b_int (by assumption)) ?_ | refine is_bool (by with_reducible rfl) (by with_reducible rfl) (by exact Hd.b_isinstance (by assumption)) (by exact Hd.b_bool (by assumption)) ?_ | refine is_tuple (by with_reducible rfl) (by with_reducible rfl) (by exact Hd.b_isinstance (by assumption)) (by exact Hd.b_tuple (by assumption)) ?_ | refine is_str (by with_reducible rfl) (by with_reducible rfl) (by exact Hd.b_isinstance (by assumption)) (by exact Hd.b_str (by assumption)) ?_ | refine is_list (by with_reducible rfl) (by with_reducible rfl) (by exact Hd.b_isinstance (by assumption)) (by exact Hd.b_list (by assumption)) ?_ | refine bi_len (by with_reducible rfl) (by exact Hd.b_len (by assumption)) ?_ | refine bi_all (by with_reducible rfl) (by exact Hd.b_all (by assumption)) ?_ | refine bi_max (by with_reducible rfl) (by exact Hd.b_max (by assumption)) ?_ | refine bi_min (by with_reducible rfl) (by exact Hd.b_min (by assumption)) ?_ | refine bi_sum (by with_reducible rfl) (by exact Hd.b_sum (by assumption)) ?_ | refine bi_abs (by with_reducible rfl) (by exact Hd.b_abs (by assumption)) ?_ | refine bi_sorted (by with_reducible rfl) (by exact Hd.b_sorted (by assumption)) ?_ | refine bi_tuple (by with_reducible rfl) (by exact Hd.b_tuple (by assumption)) ?_ | refine bi_list (by with_reducible rfl) (by exact Hd.b_list (by assumption)) ?_ | refine bi_int (by with_reducible rfl) (by exact Hd.b_int (by assumption)) ?_ | refine bi_str (by with_reducible rfl) (by exact Hd.b_str (by assumption)) ?_ | refine ce_join (by with_reducible rfl) ?_)))
local macro_rules | `(tactic| walk_at "s") => `(tactic| (((with_reducible show CE _ _ _ (.Subscript _ _ _) _ _) <;> first | refine ce_slice ?_ | refine ce_ix ?_)))
local macro_rules | `(tactic| walk_at "s") => `(tactic| (((with_reducible show CE _ _ _ (.Compare _ _ _ _) _ _) <;> first | refine ce_cmp ?_ (by first | exact nomark _ | rfl) | refine ce_chain ?_)))
local macro_rules | `(tactic| walk_at "s") => `(tactic| (((with_reducible show CE _ _ _ (.BinOp _ _ _ _) _ _) <;> first | refine ce_bin ?_)))
local macro_rules | `(tactic| walk_at "s") => `(tactic| (((with_reducible show CE _ _ _ (.Constant _ _ _) _ _) <;> first | refine ce_int ?_ | refine ce_str ?_ | refine ce_bl ?_ | refine ce_non ?_)))
local macro_rules | `(tactic| walk_at "s") => `(tactic| (((with_reducible show CE _ _ _ (.Name _ _) _ _) <;> first | refine ce_vI (by with_reducible (repeat (first | exact Ix.z | apply Ix.s))) (by rfl) (by first | exact Or.inl rfl | exact Or.inr (Or.inl rfl) | exact Or.inr (Or.inr rfl)) ?_ | refine ce_vO (by with_reducible (repeat (first | exact Ix.z | apply Ix.s))) (by rfl) (by first | exact Or.inl rfl | exact Or.inr (Or.inl rfl) | exact Or.inr (Or.inr rfl)) ?_ | refine ce_vA (by with_reducible (repeat (first | exact Ix.z | apply Ix.s))) (by rfl) (by first | exact Or.inl rfl | exact Or.inr (Or.inl rfl) | exact Or.inr (Or.inr rfl)) ?_ | refine ce_vV (by with_reducible (repeat (first | exact Ix.z | apply Ix.s))) (by rfl) (by first | exact Or.inl rfl | exact Or.inr (Or.inl rfl) | exact Or.inr (Or.inr rfl)) ?_ | refine ce_vR (by with_reducible (repeat (first | exact Ix.z | apply Ix.s))) (by rfl) (by first | exact Or.inl rfl | exact Or.inr (Or.inl rfl) | exact Or.inr (Or.inr rfl)) ?_ | refine ce_globI (by with_reducible exact Hd.c_LONGEST (by assumption)) (by rfl) ?_ | refine ce_globI (by with_reducible exact Hd.c_LOW (by assumption)) (by rfl) ?_ | refine ce_globI (by with_reducible exact Hd.c_HIGH (by assumption)) (by rfl) ?_)))
local macro_rules | `(tactic| walk_at "s") => `(tactic| ((with_reducible show CK _ (.builtin "len") [.im (.tuple (List.map PyData.int _))] _) <;> first | refine ck (cd_lenT (by first | omega | decide | (simp; done) | (simp; omega))) ?_))
local macro_rules | `(tactic| walk_at "s") => `(tactic| ((with_reducible show CK _ (.builtin "len") [.im (.list (List.map PyData.int _))] _) <;> first | refine ck (cd_lenL (by first | omega | decide | (simp; done) | (simp; omega))) ?_))
local macro_rules | `(tactic| walk_at "s") => `(tactic| ((with_reducible show CK _ (.builtin "len") [.al (List.map PyData.int _)] _) <;> first | refine ck (cd_lenA (by first | omega | decide | (simp; done) | (simp; omega))) ?_))
local macro_rules | `(tactic| walk_at "s") => `(tactic| ((with_reducible show XK2 _ (.im (.tuple (List.map PyData.int _))) (.im (.int _)) _) <;> first | refine xk2 (xd_intsT (by first | omega | decide | (simp; done) | (simp; omega)) (by first | omega | decide | (simp; done) | (simp; omega))) ?_))
local macro_rules | `(tactic| walk_at "s") => `(tactic| ((with_reducible show XK2 _ (.im (.list (List.map PyData.int _))) (.im (.int _)) _) <;> first | refine xk2 (xd_intsL (by first | omega | decide | (simp; done) | (simp; omega)) (by first | omega | decide | (simp; done) | (simp; omega))) ?_))
local macro_rules | `(tactic| walk_at "s") => `(tactic| ((with_reducible show XK2 _ (.al (List.map PyData.int _)) (.im (.int _)) _) <;> first | refine xk2 (xd_intsA (by first | omega | decide | (simp; done) | (simp; omega)) (by first | omega | decide | (simp; done) | (simp; omega))) ?_))
local macro_rules | `(tactic| walk_at "s") => `(tactic| ((with_reducible show XK2 _ (.al (_ ++ [_])) (.im (.int (-1))) _) <;> first | refine xk2 (xd_lst (.inr (.inl rfl)) (at_last _ _)) ?_))
local macro_rules | `(tactic| walk_at "t") => `(tactic| (refine setk (by rfl) (ixN_nn (by first | omega | decide | (simp; done) | (simp; omega)) (by first | omega | decide | (simp; done) | (simp; omega))) rfl ?_))
local macro_rules | `(tactic| walk_at "t") => `(tactic| ((with_reducible show CE _ _ _ _ _ _) <;> first | refine' ce_dr (by with_reducible exact ok_law_draw _ (by assumption)) (by with_reducible (repeat (first | exact Ix.z | apply Ix.s))) (by rfl) (ve_ce ?_) (by assumption) ?_ ?_ ?_ (fun r h0 h1 => ?_) (Nat.le_of_ble_eq_true rfl) (by rfl) (by first | exact Or.inl rfl | exact Or.inr (Or.inl rfl) | exact Or.inr (Or.inr rfl))))
local macro_rules | `(tactic| walk_at "t") => `(tactic| ((with_reducible show (_ : Int) < _) <;> omega))
local macro_rules | `(tactic| walk_at "t") => `(tactic| ((with_reducible show (_ : Int) ≤ _) <;> omega))
local macro_rules | `(tactic| walk_at "t") => `(tactic| ((with_reducible show CE _ _ _ _ _ _) <;> first | refine' ce_pk (by with_reducible exact ok_law_pick _ (by assumption)) (by with_reducible (repeat (first | exact Ix.z | apply Ix.s))) (by rfl) (ve_ce ?_) (by assumption) ?_ ?_ ?_ (fun d hd => ?_) (Nat.le_of_ble_eq_true rfl) (by rfl) (by first | exact Or.inl rfl | exact Or.inr (Or.inl rfl) | exact Or.inr (Or.inr rfl))))
local macro_rules | `(tactic| walk_at "t") => `(tactic| (exact Nat.le_of_ble_eq_true rfl))
local macro_rules | `(tactic| walk_at "t") => `(tactic| ((with_reducible show CE _ _ _ _ _ _) <;> first | refine' ce_snd (by with_reducible exact ok_law_sound _ (by assumption)) (by with_reducible (repeat (first | exact Ix.z | apply Ix.s))) (by rfl) (ve_ce ?_) (by assumption) ?_ ?_ ?_ (fun ns h0 h1 => ?_) (Nat.le_of_ble_eq_true rfl) (by rfl) (by first | exact Or.inl rfl | exact Or.inr (Or.inl rfl) | exact Or.inr (Or.inr rfl))))
local macro_rules | `(tactic| walk_at "t") => `(tactic| ((with_reducible show CE _ _ _ (.Call _ _ _ _) _ _) <;> first | refine ce_call (by with_reducible exact ok_is_whole _ (by assumption)) ?_ (Nat.le_of_ble_eq_true rfl)))
local macro_rules | `(tactic| walk_at "t") => `(tactic| ((with_reducible show CallG _ _ _ _) <;> first | refine cret (g_is_whole) ?_))
local macro_rules | `(tactic| walk_at "t") => `(tactic| ((with_reducible show CE _ _ _ (.Call _ _ _ _) _ _) <;> first | refine ce_call (by with_reducible exact ok_halved _ (by assumption)) ?_ (Nat.le_of_ble_eq_true rfl)))
local macro_rules | `(tactic| walk_at "t") => `(tactic| ((with_reducible show CE _ _ _ (.Call _ _ _ _) _ _) <;> first | refine ce_call (by with_reducible exact ok_cut_off _ (by assumption)) ?_ (Nat.le_of_ble_eq_true rfl)))
local macro_rules | `(tactic| walk_at "t") => `(tactic| ((with_reducible show CE _ _ _ (.Call _ _ _ _) _ _) <;> first | refine ce_call (by with_reducible exact ok_need_sounds _ (by assumption)) ?_ (Nat.le_of_ble_eq_true rfl)))
local macro_rules | `(tactic| walk_at "t") => `(tactic| ((with_reducible show CallG _ _ _ _) <;> first | refine cret (g_halvedF (by first | omega | decide | (simp; done) | (simp; omega))) ?_))
local macro_rules | `(tactic| walk_at "t") => `(tactic| ((with_reducible show CallG _ _ _ _) <;> first | refine cret (g_cut_offF) ?_))
local macro_rules | `(tactic| walk_at "t") => `(tactic| ((with_reducible show CallG _ _ _ _) <;> first | refine cret (g_need1 (by assumption)) ?_))
local macro_rules | `(tactic| walk_at "s") => `(tactic| ((with_reducible show SK2 _ (.im (.tuple (List.map PyData.int _))) (some _) (some _) _) <;> first | refine sk2 (sd_intsNN (by first | omega | decide | (simp; done) | (simp; omega)) (by first | omega | decide | (simp; done) | (simp; omega))) ?_))
local macro_rules | `(tactic| walk_at "s") => `(tactic| ((with_reducible show CK _ (.builtin "max") [_, _] _) <;> first | refine ck cd_max2m ?_))
local macro_rules | `(tactic| walk_at "s") => `(tactic| ((with_reducible show CK _ (.builtin "min") [_, _] _) <;> first | refine ck cd_min2m ?_))
local macro_rules | `(tactic| walk_at "s") => `(tactic| ((with_reducible show CK _ (.builtin "sorted") [.im (.tuple (List.map PyData.int _))] _) <;> first | refine ck (cd_srtTI (by first | omega | decide | (simp; done) | (simp; omega))) ?_))
local macro_rules | `(tactic| walk_at "s") => `(tactic| ((with_reducible show XK2 _ (.ow (List.map PyData.int _)) (.im (.int _)) _) <;> first | refine xk2 (xd_intsO (by first | omega | decide | (simp; done) | (simp; omega)) (by first | omega | decide | (simp; done) | (simp; omega))) ?_))
local macro_rules | `(tactic| walk_at "s") => `(tactic| ((with_reducible show OK2 _ (compareOp .NotEq) (.im (.tuple (List.map PyData.int _))) (.im (.tuple [])) _) <;> first | refine ok2 od_neT0 ?_))
local macro_rules | `(tactic| walk_at "s") => `(tactic| ((with_reducible show OK2 _ (binaryOp .Add) (.im (.tuple (List.map PyData.int _))) (.im (.tuple (List.map PyData.int _))) _) <;> first | refine ok2 (od_catI (by first | omega | decide | (simp; done) | (simp; omega))) ?_))
local macro_rules | `(tactic| walk_at "kk") => `(tactic| repeat' first | walk_at "s" | walk_at "t" | fail "no rule")
theorem ok_middle (M : Md) (T : Hd M) : Fn M 1 "middle" G_middle := by
  obtain ⟨f, fd, F, hm, hb⟩ := T.d_middle
  have nd := sc_middle.nd
  refine fn_ok F hm hb sc_middle (fun ds o h => ?_) fun E ds o h => ?_
  · obtain ⟨l, rfl, h0, hl, rfl⟩ := h; rfl
  obtain ⟨l, rfl, h0, hl, rfl⟩ := h
  conv => arg 3; whnf
  show RB _ [.im (.tuple (l.map .int))] _ _
  have hp : 0 < l.length := List.length_pos_iff.mpr h0
  have hs := srtI_len l
  walk_at "kk"
  refine ⟨_, ?_, rfl⟩
  show Oc.ret (.int (midF l)) = Oc.ret (.int ((srtI l).getD (((l.length : Int) - 1) / 2).toNat 0))
  rw [show (((l.length : Int) - 1) / 2).toNat = (l.length - 1) / 2 by omega]
  rfl
def G_without_clicks (ds : List PyData) (o : Oc) : Prop := ∃ (ns : List Int) (near far : Nat), ds = [.tuple (ns.map .int), .int near, .int far] ∧ ns.length ≤ 2000 ∧ near ≤ 9 ∧ o = .ret (.tuple ((stepL ns (.clicks near far)).map .int))
theorem g_without_clicks {ns : List Int} {near far : Nat} (h : ns.length ≤ 2000) (h2 : near ≤ 9) : G_without_clicks [.tuple (ns.map .int), .int near, .int far] (.ret (.tuple ((stepL ns (.clicks near far)).map .int))) := ⟨ns, near, far, rfl, h, h2, rfl⟩
def Stop3 (p : Prop) : Prop := p
theorem rc_asgS3 {S : Sh} {ρ : List Sl} {e : Expr} {rest : List Stmt} {pos p : Pos} {P : Pst} {i : Nat} {x : Str} (hN : Ix S.N i x) (h : CE S true ρ e P.ex fun r ρ1 => Stop3 (RB S (ρ1.set i r) rest P)) (hnd : S.N.Nodup := by walk_at "kd nd") (hx : Loc S.sc x := by walk_at "kd loc") (hf : S.fa = true ∨ S.sc.names.lookup x = some .local := by first | exact .inl rfl | exact .inr rfl)
    (hs : ∀ X : Cx, X.env.scope = S.sc → swapsWith e (some (.Name x p)) pos.line X.env = pure false := by intro _ _; rfl) : RB S ρ (.Assign [.Name x p] e pos :: rest) P := rc_asg hN h hnd hx hf hs
theorem zip_idx_at {ns : List Int} {pre post : List (Int × Nat)} {q : Int × Nat} (h : ns.zipIdx = pre ++ q :: post) : q.2 = pre.length ∧ pre.length < ns.length ∧ q.1 = ns.getD pre.length 0 := by
  have h1 : ns.zipIdx[pre.length]? = some q := by rw [h]; simp
  rw [List.getElem?_zipIdx] at h1
  cases hb : ns[pre.length]? with
  | none => rw [hb] at h1; cases h1
  | some y =>
    rw [hb] at h1
    cases h1
    obtain ⟨z, _⟩ := List.getElem?_eq_some_iff.mp hb
    exact ⟨by simp, z, by rw [List.getD_eq_getElem?_getD, hb]; rfl⟩
theorem map_range_succ {f : Nat → Int} (k : Nat) : ((List.range (k + 1)).map f).map PyData.int = ((List.range k).map f).map PyData.int ++ [.int (f k)] := by
  rw [List.range_succ, List.map_append, List.map_append]
  rfl
local macro_rules | `(tactic| walk_at "t") => `(tactic| ((with_reducible show CE _ _ _ (.Call _ _ _ _) _ _) <;> first | refine ce_call (by with_reducible exact ok_middle _ (by assumption)) ?_ (Nat.le_of_ble_eq_true rfl)))
local macro_rules | `(tactic| walk_at "t") => `(tactic| ((with_reducible show CallG _ _ _ _) <;> first | refine cret (g_middle (by assumption) (by first | omega | decide | (simp; done) | (simp; omega))) ?_))
local macro_rules | `(tactic| walk_at "s") => `(tactic| ((with_reducible show RB _ _ _ _) <;> ((try dsimp only [List.set]); ((with_reducible show RB _ _ (.Assign [.Name "some" _] _ _ :: _) _) <;> refine rc_asgS3 (by with_reducible (repeat (first | exact Ix.z | apply Ix.s))) ?_ (by assumption) (by first | exact Or.inl rfl | exact Or.inr rfl)))))
theorem ok_without_clicks (M : Md) (T : Hd M) : Fn M 2 "without_clicks" G_without_clicks := by
  obtain ⟨f, fd, F, hm, hb⟩ := T.d_without_clicks
  have nd := sc_without_clicks.nd
  refine fn_ok F hm hb sc_without_clicks (fun ds o h => ?_) fun E ds o h => ?_
  · obtain ⟨ns, near, far, rfl, hl, hn, rfl⟩ := h; rfl
  obtain ⟨ns, near, far, rfl, hl, hn, rfl⟩ := h
  conv => arg 3; whnf
  show RB _ [.im (.tuple (ns.map .int)), .im (.int near), .im (.int far), .no, .no, .no, .no] _ _
  walk_at "kk"
  dsimp only [List.set]
  refine rc_forE (xs := ns.zipIdx) (inj := fun q => .tuple [.int (q.2 : Nat), .int q.1]) (fun pre => [.im (.tuple (ns.map .int)), .im (.int near), .im (.int far), .ow (((List.range pre.length).map (clkAt ns near far)).map .int), .no, .no, .no]) (ix_enT T.b_enumerate (ve_ce ?_)) (by walk_at "fg") (fun pre q post hq => ?_) ?_
  · walk_at "kk"
  · obtain ⟨z1, z2, z3⟩ := zip_idx_at hq
    rw [z1, z3, List.length_append, List.length_singleton]
    generalize pre.length = k at z2
    refine ⟨_, _, by walk_at "gd", ?_⟩
    dsimp only [List.set]
    walk_at "kk"
    have ew : (ns.drop (max ((k : Int) - near) 0).toNat).take ((k : Int).toNat - (max ((k : Int) - near) 0).toNat) ++ (ns.drop ((k : Int) + 1).toNat).take (((k : Int) + 1 + near).toNat - ((k : Int) + 1).toNat) = winL ns k near := by
      unfold winL
      rw [show (max ((k : Int) - near) 0).toNat = k - near by omega, show (k : Int).toNat = k by omega, show ((k : Int) + 1).toNat = k + 1 by omega, show ((k : Int) + 1 + near).toNat - (k + 1) = near by omega]
    rw [ew]
    have hw := win_len ns k near
    show RB _ _ _ _
    dsimp only [List.set]
    have hc : clkAt ns near far k = if winL ns k near ≠ [] ∧ absZ (ns.getD k 0 - midF (winL ns k near)) > far then midF (winL ns k near) else ns.getD k 0 := rfl
    generalize winL ns k near = w at hw hc ⊢
    walk_at "kk"
    · rename_i h1
      walk_at "fg"
      rw [map_range_succ, hc, if_neg fun z => z.1 h1]
    · rename_i h1 h2
      walk_at "fg"
      rw [map_range_succ, hc, if_pos ⟨h1, h2⟩]
    · rename_i h1 h2
      walk_at "fg"
      rw [map_range_succ, hc, if_neg fun z => h2 z.2]
  · rw [List.length_zipIdx]
    walk_at "kk"
/-! the steps of a tuple -/
theorem stride_pick (ns : List Int) {r c : Nat} (hc : 1 ≤ c) : stepPick (ns.map PyData.int) r c = (strideL ns r c).map .int := by
  unfold stepPick strideL
  rw [List.length_map, List.map_map]
  have key : ∀ l : List Nat, (∀ k ∈ l, r + k * c < ns.length) → l.filterMap (fun k => (ns.map PyData.int)[r + k * c]?) = l.map (PyData.int ∘ fun k => ns.getD (r + k * c) 0) := by
    intro l
    induction l with
    | nil => intro _; rfl
    | cons k l ih =>
      intro h
      have h1 := h k List.mem_cons_self
      rw [List.filterMap_cons, List.getElem?_map, List.getElem?_eq_getElem h1, List.map_cons, ← ih fun j hj => h j (List.mem_cons_of_mem _ hj)]
      show PyData.int ns[r + k * c] :: _ = PyData.int (ns.getD (r + k * c) 0) :: _
      rw [List.getD_eq_getElem?_getD, List.getElem?_eq_getElem h1]
      rfl
  exact key _ fun k hk => stride_lt hc (List.mem_range.mp hk)
theorem stride_rg {r c n : Nat} (hr : r < n) (hc : 1 ≤ c) (hn : n ≤ 100000) (hc2 : c ≤ 1000) : RgC (r : Int) (n : Int) (c : Int) (strideN n r c) := by
  refine rgc_up (by omega) (by omega) (by omega) (by omega) (by omega) (by omega) ?_
  unfold strideN
  rw [if_pos hr, if_pos (by omega), show ((n : Int) - (r : Int) - 1) = ((n - r - 1 : Nat) : Int) by omega, ← Int.natCast_ediv]
  rfl
def G_without_hum (ds : List PyData) (o : Oc) : Prop := ∃ (ns : List Int) (c : Nat), ds = [.tuple (ns.map .int), .int c] ∧ ns.length ≤ 2000 ∧ 1 ≤ c ∧ c ≤ 99 ∧ o = .ret (.tuple ((stepL ns (.hum c)).map .int))
theorem g_without_hum {ns : List Int} {c : Nat} (h : ns.length ≤ 2000) (h1 : 1 ≤ c) (h2 : c ≤ 99) : G_without_hum [.tuple (ns.map .int), .int c] (.ret (.tuple ((stepL ns (.hum c)).map .int))) := ⟨ns, c, rfl, h, h1, h2, rfl⟩
def natD (n : Nat) : PyData := .int (n : Nat)
theorem range_at {n : Nat} {pre post : List Nat} {k : Nat} (h : List.range n = pre ++ k :: post) : k = pre.length ∧ k < n := by
  have h1 : (List.range n)[pre.length]? = some k := by rw [h]; simp
  obtain ⟨z, e⟩ := List.getElem?_eq_some_iff.mp h1
  rw [List.getElem_range] at e
  rw [List.length_range] at z
  omega
local macro_rules | `(tactic| walk_at "t") => `(tactic| ((with_reducible show CE _ _ _ (.Call _ _ _ _) _ _) <;> first | refine ce_call (by with_reducible exact ok_without_clicks _ (by assumption)) ?_ (Nat.le_of_ble_eq_true rfl)))
local macro_rules | `(tactic| walk_at "t") => `(tactic| ((with_reducible show CallG _ _ _ _) <;> first | refine cret (g_without_clicks (by first | omega | decide | (simp; done) | (simp; omega)) (by first | omega | decide | (simp; done) | (simp; omega))) ?_))
local macro_rules | `(tactic| walk_at "s") => `(tactic| ((with_reducible show CK _ (.builtin "sum") [.im (.tuple (List.map PyData.int _))] _) <;> first | refine ck cd_sumTI ?_))
local macro_rules | `(tactic| walk_at "s") => `(tactic| ((with_reducible show CE _ _ _ _ _ _) <;> first | refine ce_step ?_))
theorem ok_without_hum (M : Md) (T : Hd M) : Fn M 2 "without_hum" G_without_hum := by
  obtain ⟨f, fd, F, hm, hb⟩ := T.d_without_hum
  have nd := sc_without_hum.nd
  refine fn_ok F hm hb sc_without_hum (fun ds o h => ?_) fun E ds o h => ?_
  · obtain ⟨ns, c, rfl, hl, h1, h2, rfl⟩ := h; rfl
  obtain ⟨ns, c, rfl, hl, h1, h2, rfl⟩ := h
  conv => arg 3; whnf
  show RB _ [.im (.tuple (ns.map .int)), .im (.int c), .no, .no, .no, .no, .no] _ _
  walk_at "kk"
  dsimp only [List.set]
  refine rc_forE (xs := List.range (min c ns.length)) (inj := natD) (fun pre => [.im (.tuple (ns.map .int)), .im (.int c), .ow ((humTo ns c pre.length 0).map .int), .no, .no, .no, .no]) (by
    refine ix_eq (ix_range1 (n := min (c : Int) ns.length) T.b_range (ve_ce ?_) (by omega) (by omega)) (by rw [show (min (c : Int) ns.length).toNat = min c ns.length by omega]; rfl)
    walk_at "kk") (by
    rw [List.length_nil, humTo_0]
    walk_at "fg") (fun pre R post hq => ?_) ?_
  · obtain ⟨e1, e2⟩ := range_at hq
    rw [List.length_append, List.length_singleton, ← e1]
    have hR : R < ns.length := by omega
    have hRc : R < c := by omega
    have hp := stride_pos (n := ns.length) (r := R) (c := c) hR
    have hle := stride_le ns.length R c
    refine ⟨_, _, by unfold natD; walk_at "gd", ?_⟩
    dsimp only [List.set]
    walk_at "kk"

    refine stepk (by omega) (by omega) ?_
    rw [Int.toNat_natCast, Int.toNat_natCast, stride_pick ns h1]
    show RB _ _ _ _
    have hsl : (strideL ns R c).length = strideN ns.length R c := by unfold strideL; rw [List.length_map, List.length_range]
    have hm : humM ns R c = halvedF (strideL ns R c).sum (strideL ns R c).length := rfl
    generalize strideL ns R c = w at hsl hm
    dsimp only [List.set]
    walk_at "kk"
    refine rc_forE (xs := List.range (strideN ns.length R c)) (inj := fun k => .int ((R : Int) + (k : Nat) * (c : Int))) (fun pre2 => [.im (.tuple (ns.map .int)), .im (.int c), .ow ((humTo ns c R pre2.length).map .int), .im (.int (R : Nat)), .im (.tuple (w.map .int)), .im (.int (humM ns R c)), .no]) (by
      refine ix_range3 (i := (R : Int)) (j := (ns.length : Int)) (c := (c : Int)) T.b_range (ve_ce ?_) (ve_ce ?_) (ve_ce ?_) (stride_rg hR h1 (by omega) (by omega)) <;> walk_at "kk") (by
      rw [hm]
      walk_at "fg") (fun pre2 k post2 hq2 => ?_) ?_
    · obtain ⟨e3, e4⟩ := range_at hq2
      rw [List.length_append, List.length_singleton, ← e3]
      have hk := stride_lt (by omega) e4
      have hset := humTo_set ns (k := k) hRc
      have hlen := humTo_len ns c R k
      refine ⟨_, _, by walk_at "gd", ?_⟩
      dsimp only [List.set]
      have ek : (R : Int) + (k : Int) * (c : Int) = ((R + k * c : Nat) : Int) := by rw [Int.natCast_add, Int.natCast_mul]
      rw [ek]
      generalize R + k * c = j at hk hset
      walk_at "kk"
      walk_at "fg"
      rw [← hset, List.map_set]
      rfl
    · rw [List.length_range, humTo_next ns hR hRc]
      walk_at "kk"
      walk_at "fg"
  · rw [List.length_range, humTo_full ns rfl (by omega)]
    walk_at "kk"

/-! ### rows of small samples, steps, trails: the walks -/
def G_without_hush (ds : List PyData) (o : Oc) : Prop := ∃ (ns : List Int) (most long : Nat), ds = [.tuple (ns.map .int), .int most, .int long] ∧ ns.length ≤ 2000 ∧ 1 ≤ long ∧ o = .ret (.tuple ((stepL ns (.hush most long)).map .int))
theorem g_without_hush {ns : List Int} {most long : Nat} (h : ns.length ≤ 2000) (h1 : 1 ≤ long) : G_without_hush [.tuple (ns.map .int), .int most, .int long] (.ret (.tuple ((stepL ns (.hush most long)).map .int))) := ⟨ns, most, long, rfl, h, h1, rfl⟩
theorem od_repS {S : Sh} {k : Int} (h0 : 1 ≤ k) (h : k ≤ 90000) : OD S (binaryOp .Mult) (.ow [.int 0]) (.im (.int k)) (.ow ((List.replicate k.toNat 0).map .int)) := by
  have := od_repL (S := S) (s1 := .ow [.int 0]) (ds := [.int 0]) (k := k) (.inr rfl) (by omega) (by omega) (by simp; omega)
  rw [flat_one] at this
  rw [List.map_replicate]
  exact this
theorem hush_store {ns : List Int} {most long a : Nat} (hb : smallAt ns most a = false) (ha : a ≤ ns.length) (h : long ≤ runB4 ns most a) : (((hushTo ns most long (hushSt ns most a)).map PyData.int).take ((hushSt ns most a : Nat) : Int).toNat ++ (List.replicate ((a : Int) - (hushSt ns most a : Nat)).toNat 0).map PyData.int ++ ((hushTo ns most long (hushSt ns most a)).map PyData.int).drop (a : Int).toNat) = (hushTo ns most long (a + 1)).map PyData.int := by
  have hl := runB4_le ns most a
  rw [hush_end hb, if_pos h, ← List.map_take, ← List.map_drop, ← List.map_append, ← List.map_append]
  congr 2
  · congr 1
    · congr 1
      rw [show min a ns.length = a by omega]
      unfold hushSt
      omega
local macro_rules | `(tactic| walk_at "t") => `(tactic| ((with_reducible show CE _ _ _ (.Call _ _ _ _) _ _) <;> first | refine ce_call (by with_reducible exact ok_without_hum _ (by assumption)) ?_ (Nat.le_of_ble_eq_true rfl)))
local macro_rules | `(tactic| walk_at "t") => `(tactic| ((with_reducible show CallG _ _ _ _) <;> first | refine cret (g_without_hum (by first | omega | decide | (simp; done) | (simp; omega)) (by first | omega | decide | (simp; done) | (simp; omega)) (by first | omega | decide | (simp; done) | (simp; omega))) ?_))
local macro_rules | `(tactic| walk_at "s") => `(tactic| ((with_reducible show OK2 _ (binaryOp .Mult) (.ow [.int 0]) (.im (.int _)) _) <;> first | refine ok2 (od_repS (by first | omega | decide | (simp; done) | (simp; omega)) (by first | omega | decide | (simp; done) | (simp; omega))) ?_))
local macro_rules | `(tactic| walk_at "s") => `(tactic| ((with_reducible show RB _ _ _ _) <;> ((try dsimp only [List.set]); ((with_reducible show RB _ _ (.Assign [.Subscript (.Name _ _) (.Slice (some _) (some _) none _) _] _ _ :: _) _) <;> refine rx_setSl (by with_reducible (repeat (first | exact Ix.z | apply Ix.s))) (by first | exact Or.inl rfl | exact Or.inr (Or.inl rfl) | exact Or.inr (Or.inr rfl)) ?_))))
local macro_rules | `(tactic| walk_at "t") => `(tactic| (((with_reducible show ∃ es ds0, Sl.ow _ = Sl.ow es ∧ _ = some (Sl.ow ds0) ∧ CE _ _ _ _ _ _) <;> refine ⟨_, _, rfl, rfl, ?_⟩)))
theorem ok_without_hush (M : Md) (T : Hd M) : Fn M 1 "without_hush" G_without_hush := by
  obtain ⟨f, fd, F, hm, hb⟩ := T.d_without_hush
  have nd := sc_without_hush.nd
  refine fn_ok F hm hb sc_without_hush (fun ds o h => ?_) fun E ds o h => ?_
  · obtain ⟨ns, most, long, rfl, hl, h1, rfl⟩ := h; rfl
  obtain ⟨ns, most, long, rfl, hl, h1, rfl⟩ := h
  conv => arg 3; whnf
  show RB _ [.im (.tuple (ns.map .int)), .im (.int most), .im (.int long), .no, .no, .no] _ _
  walk_at "kk"
  dsimp only [List.set]
  refine rc_forE (xs := List.range (ns.length + 1)) (inj := natD) (fun pre => [.im (.tuple (ns.map .int)), .im (.int most), .im (.int long), .ow ((hushTo ns most long (hushSt ns most pre.length)).map .int), .im (.int (hushSt ns most pre.length : Nat)), .no]) (by
    refine ix_eq (ix_range1 (n := (ns.length : Int) + 1) T.b_range (ve_ce ?_) (by omega) (by omega)) (by rw [show ((ns.length : Int) + 1).toNat = ns.length + 1 by omega]; rfl)
    walk_at "kk") (by
    rw [List.length_nil, show hushSt ns most 0 = 0 from rfl, hushTo_0]
    walk_at "fg") (fun pre a post hq => ?_) ?_
  · obtain ⟨e1, e2⟩ := range_at hq
    rw [List.length_append, List.length_singleton, ← e1]
    have ha : a ≤ ns.length := by omega
    have hr := runB4_le ns most a
    have hst : hushSt ns most a = a - runB4 ns most a := rfl
    have hlen := hushTo_len ns most long (hushSt ns most a)
    refine ⟨_, _, by unfold natD; walk_at "gd", ?_⟩
    dsimp only [List.set]
    have key : smallAt ns most a = false → (hushSt ns most (a + 1) : Nat) = a + 1 := fun h => hush_new h
    walk_at "kk"
    · rename_i h2 h3
      have hb : smallAt ns most a = false := small_out (by omega)
      refine setsk rfl (by omega) (by omega) (by rw [List.length_map, hlen]; omega) (by rw [List.length_map, List.length_map, hlen, List.length_replicate]; omega) rfl ?_
      rw [hush_store hb ha (by omega)]
      dsimp only [List.set]
      walk_at "kk"
      rw [key hb]
      walk_at "fg"
    · rename_i h2 h3
      have hb : smallAt ns most a = false := small_out (by omega)
      have he := hush_end (long := long) hb
      rw [if_neg (by omega)] at he
      rw [key hb, he]
      walk_at "fg"
    · rename_i h2 h4 h3
      have hb : smallAt ns most a = false := by
        rw [small_iff (by omega)]
        exact decide_eq_false (Int.not_le.mpr h4)
      refine setsk rfl (by omega) (by omega) (by rw [List.length_map, hlen]; omega) (by rw [List.length_map, List.length_map, hlen, List.length_replicate]; omega) rfl ?_
      rw [hush_store hb ha (by omega)]
      dsimp only [List.set]
      walk_at "kk"
      rw [key hb]
      walk_at "fg"
    · rename_i h2 h4 h3
      have hb : smallAt ns most a = false := by
        rw [small_iff (by omega)]
        exact decide_eq_false (Int.not_le.mpr h4)
      have he := hush_end (long := long) hb
      rw [if_neg (by omega)] at he
      rw [key hb, he]
      walk_at "fg"
    · rename_i h2 h4
      have hb : smallAt ns most a = true := by
        rw [small_iff (by omega)]
        exact decide_eq_true (Int.not_lt.mp h4)
      rw [hush_go hb]
      walk_at "fg"
  · rw [List.length_range, hush_new (small_out (Nat.le_refl _)), hushTo_full _ _ _ _ (Nat.le_succ _)]
    walk_at "kk"
/-! a step -/
def stepD : Stp → PyData
  | .clicks near far => .tuple [.str "clicks", .int (near : Nat), .int (far : Nat)]
  | .hum c => .tuple [.str "hum", .int (c : Nat)]
  | .hush most long => .tuple [.str "hush", .int (most : Nat), .int (long : Nat)]
  | .even => .tuple [.str "even"]
def StpOk : Stp → Prop
  | .clicks near far => 1 ≤ near ∧ near ≤ 9 ∧ far ≤ 4095
  | .hum c => 1 ≤ c ∧ c ≤ 99
  | .hush most long => most ≤ 2047 ∧ 1 ≤ long ∧ long ≤ 99
  | .even => True
theorem stp_step {s : Stp} (h : StpOk s) : isStepB (stepD s) = true := by
  cases s with
  | clicks near far =>
    obtain ⟨a, b, c⟩ := h
    show (isWhole (.int (near : Nat)) 1 9 && isWhole (.int (far : Nat)) 0 4095) = true
    simp [isWhole]
    omega
  | hum c =>
    obtain ⟨a, b⟩ := h
    show isWhole (.int (c : Nat)) 1 99 = true
    simp [isWhole]
    omega
  | hush most long =>
    obtain ⟨a, b, c⟩ := h
    show (isWhole (.int (most : Nat)) 0 2047 && isWhole (.int (long : Nat)) 1 99) = true
    simp [isWhole]
    omega
  | even => decide
theorem stp_okE (s : Stp) : okE (stepD s) := by
  cases s <;> exact ⟨rfl, by first | kernel_rfl | rfl, Nat.le_of_ble_eq_true rfl⟩
def G_stepped (ds : List PyData) (o : Oc) : Prop := ∃ (ns : List Int) (s : Stp), ds = [.tuple (ns.map .int), stepD s] ∧ ns.length ≤ 2000 ∧ StpOk s ∧ o = .ret (.tuple ((stepL ns s).map .int))
theorem g_stepped {ns : List Int} {s : Stp} (h : ns.length ≤ 2000) (h1 : StpOk s) : G_stepped [.tuple (ns.map .int), stepD s] (.ret (.tuple ((stepL ns s).map .int))) := ⟨ns, s, rfl, h, h1, rfl⟩
local macro_rules | `(tactic| walk_at "t") => `(tactic| ((with_reducible show CE _ _ _ (.Call _ _ _ _) _ _) <;> first | refine ce_call (by with_reducible exact ok_without_hush _ (by assumption)) ?_ (Nat.le_of_ble_eq_true rfl)))
local macro_rules | `(tactic| walk_at "t") => `(tactic| ((with_reducible show CallG _ _ _ _) <;> first | refine cret (g_without_hush (by first | omega | decide | (simp; done) | (simp; omega)) (by first | omega | decide | (simp; done) | (simp; omega))) ?_))
theorem ok_stepped (M : Md) (T : Hd M) : Fn M 3 "stepped" G_stepped := by
  obtain ⟨f, fd, F, hm, hb⟩ := T.d_stepped
  have nd := sc_stepped.nd
  refine fn_ok F hm hb sc_stepped (fun ds o h => ?_) fun E ds o h => ?_
  · obtain ⟨ns, s, rfl, hl, hs, rfl⟩ := h; rfl
  obtain ⟨ns, s, rfl, hl, hs, rfl⟩ := h
  conv => arg 3; whnf
  show RB _ [.im (.tuple (ns.map .int)), .im (stepD s), .no, .no] _ _
  cases s with
  | clicks near far =>
    obtain ⟨s1, s2, s3⟩ := hs
    unfold stepD
    walk_at "kk"
  | hum c =>
    obtain ⟨s1, s2⟩ := hs
    unfold stepD
    walk_at "kk"
  | hush most long =>
    obtain ⟨s1, s2, s3⟩ := hs
    unfold stepD
    walk_at "kk"
  | even =>
    unfold stepD
    walk_at "kk"
    · rename_i h0
      subst h0
      refine ce_lc [("one", 3)] (xs := ([] : List Int)) (inj := .int) (fun v => .int (cutOff (v - 0))) (ix_tup (ve_ce ?_)) (fun v hv => nomatch hv) (Nat.zero_le _) ?_
      · walk_at "kk"
      · walk_at "kk"
    · rename_i h0
      have hp : 0 < ns.length := List.length_pos_iff.mpr h0
      refine cret (g_halvedF (by omega)) ?_
      dsimp only [List.set]
      walk_at "kk"
      refine ce_lc [("one", 3)] (xs := ns) (inj := .int) (fun v => .int (cutOff (v - halvedF ns.sum ns.length))) (ix_tup (ve_ce ?_)) (fun v hv => ?_) (by omega) ?_
      · walk_at "kk"
      · walk_at "cb"
        walk_at "kk"
      · walk_at "kk"
        refine ⟨_, ?_, rfl⟩
        show Oc.ret (.tuple ((ns.map fun v => cutOff (v - evenM ns)).map .int)) = _
        rw [List.map_map]
        unfold evenM
        rw [if_neg h0]
        rfl
/-! trails -/
def trRow (r : List (Int × Int)) : PyData := .list (r.map prD)
def G_trail_of (ds : List PyData) (o : Oc) : Prop := ∃ b a : List Int, ds = [.tuple (b.map .int), .tuple (a.map .int)] ∧ b.length ≤ 2000 ∧ o = .ret (trRow (trailL b a))
theorem g_trail_of {b a : List Int} (h : b.length ≤ 2000) : G_trail_of [.tuple (b.map .int), .tuple (a.map .int)] (.ret (trRow (trailL b a))) := ⟨b, a, rfl, h, rfl⟩
local macro_rules | `(tactic| walk_at "t") => `(tactic| ((with_reducible show CE _ _ _ (.Call _ _ _ _) _ _) <;> first | refine ce_call (by with_reducible exact ok_stepped _ (by assumption)) ?_ (Nat.le_of_ble_eq_true rfl)))
local macro_rules | `(tactic| walk_at "t") => `(tactic| ((with_reducible show CallG _ _ _ _) <;> first | refine cret (g_stepped (by first | omega | decide | (simp; done) | (simp; omega)) (by assumption)) ?_))
theorem ok_trail_of (M : Md) (T : Hd M) : Fn M 1 "trail_of" G_trail_of := by
  obtain ⟨f, fd, F, hm, hb⟩ := T.d_trail_of
  have nd := sc_trail_of.nd
  refine fn_ok F hm hb sc_trail_of (fun ds o h => ?_) fun E ds o h => ?_
  · obtain ⟨b, a, rfl, hl, rfl⟩ := h; rfl
  obtain ⟨b, a, rfl, hl, rfl⟩ := h
  conv => arg 3; whnf
  show RB _ [.im (.tuple (b.map .int)), .im (.tuple (a.map .int)), .no, .no, .no] _ _
  walk_at "kk"
  refine ce_lcf [("at", 2), ("one", 3), ("other", 4)] (xs := (b.zip a).zipIdx) (inj := fun q => .tuple [.int (q.2 : Nat), .tuple [.int q.1.1, .int q.1.2]]) (fun q => !decide (q.1.1 = q.1.2)) (fun q => .tuple [.int (q.2 : Nat), .int q.1.1]) (ix_ez T.b_enumerate T.b_zip (ve_ce ?_) (ve_ce ?_)) (fun q hq => ?_) (by rw [List.length_zipIdx, List.length_zip]; omega) ?_
  · walk_at "kk"
  · walk_at "kk"
  · walk_at "cb"
    refine ⟨?_, fun _ => ?_⟩ <;> walk_at "kk"
  · walk_at "kk"
    refine ⟨_, ?_, rfl⟩
    show Oc.ret (.list ((((b.zip a).zipIdx.filter fun q => !decide (q.1.1 = q.1.2)).map fun q => ((q.2 : Int), q.1.1)).map prD)) = _
    rw [List.map_map]
    rfl
/-! steps, one behind another -/
def cleanD (ns : List Int) (ss : List Stp) : PyData := .tuple [.tuple ((cleanS ns ss).map .int), .list ((cleanT ns ss).map trRow)]
def G_cleaned (ds : List PyData) (o : Oc) : Prop := ∃ (ns : List Int) (ss : List Stp), ds = [.tuple (ns.map .int), .tuple (ss.map stepD)] ∧ SndOk ns ∧ ss.length ≤ 1000 ∧ (∀ s ∈ ss, StpOk s) ∧ o = .ret (cleanD ns ss)
theorem g_cleaned {ns : List Int} {ss : List Stp} (h : SndOk ns) (h1 : ss.length ≤ 1000) (h2 : ∀ s ∈ ss, StpOk s) : G_cleaned [.tuple (ns.map .int), .tuple (ss.map stepD)] (.ret (cleanD ns ss)) := ⟨ns, ss, rfl, h, h1, h2, rfl⟩
theorem are_yes {ss : List Stp} (h1 : ss.length ≤ 1000) (h2 : ∀ s ∈ ss, StpOk s) : G_are_steps [.tuple (ss.map stepD)] (.ret (.bool true)) := by
  have := g_are_steps (d := .tuple (ss.map stepD)) ⟨by rw [List.length_map]; omega, fun x hx => by
    obtain ⟨s, hs, rfl⟩ := List.mem_map.mp hx
    exact stp_okE s⟩
  rw [show areStepsB (.tuple (ss.map stepD)) = true from List.all_eq_true.mpr fun x hx => by
    obtain ⟨s, hs, rfl⟩ := List.mem_map.mp hx
    exact stp_step (h2 s hs)] at this
  exact this
local macro_rules | `(tactic| walk_at "t") => `(tactic| ((with_reducible show CE _ _ _ (.Call _ _ _ _) _ _) <;> first | refine ce_call (by with_reducible exact ok_trail_of _ (by assumption)) ?_ (Nat.le_of_ble_eq_true rfl)))
local macro_rules | `(tactic| walk_at "t") => `(tactic| ((with_reducible show CallG _ _ _ _) <;> first | refine cret (g_trail_of (by first | omega | decide | (simp; done) | (simp; omega))) ?_))
local macro_rules | `(tactic| walk_at "t") => `(tactic| ((with_reducible show CE _ _ _ (.Call _ _ _ _) _ _) <;> first | refine ce_call (by with_reducible exact ok_are_steps _ (by assumption)) ?_ (Nat.le_of_ble_eq_true rfl)))
local macro_rules | `(tactic| walk_at "t") => `(tactic| ((with_reducible show CallG _ _ _ _) <;> first | refine cret (are_yes (by first | omega | decide | (simp; done) | (simp; omega)) (by assumption)) ?_))
theorem ok_cleaned (M : Md) (T : Hd M) : Fn M 4 "cleaned" G_cleaned := by
  obtain ⟨f, fd, F, hm, hb⟩ := T.d_cleaned
  have nd := sc_cleaned.nd
  refine fn_ok F hm hb sc_cleaned (fun ds o h => ?_) fun E ds o h => ?_
  · obtain ⟨ns, ss, rfl, hS, hl, hs, rfl⟩ := h; rfl
  obtain ⟨ns, ss, rfl, hS, hl, hs, rfl⟩ := h
  conv => arg 3; whnf
  show RB _ [.im (.tuple (ns.map .int)), .im (.tuple (ss.map stepD)), .no, .no, .no] _ _
  walk_at "kk"
  dsimp only [List.set]
  refine rc_forE (xs := ss) (inj := stepD) (fun pre => [.im (.tuple ((cleanS ns pre).map .int)), .im (.tuple (ss.map stepD)), .ow ((cleanT ns pre).map trRow), .no, .no]) (ix_tup (ve_ce ?_)) (by walk_at "fg") (fun pre s post hq => ?_) ?_
  · walk_at "kk"
  · have hS' : StpOk s := hs s (by rw [hq]; simp)
    have hpl : pre.length ≤ 1000 := by have e1 := congrArg List.length hq; rw [List.length_append, List.length_cons] at e1; omega
    have h1 := cleanS_len pre ns
    have h2 := cleanT_len pre ns
    have h3 := hS.1
    rw [cleanS_app, cleanT_app, List.map_append]
    refine ⟨_, _, by walk_at "gd", ?_⟩
    dsimp only [List.set]
    generalize cleanS ns pre = x at h1 ⊢
    walk_at "kk"
    walk_at "fg"
  · refine rb_ice 2 rfl ?_
    dsimp only [List.set]
    walk_at "kk"

/-! ### data that is like itself -/
structure Nice (n : Nat) (d : PyData) : Prop where
  nd : noDict d = true
  cl : d.canLay0 = true
  dp : d.depth ≤ n
  eq : PyData.eqv d d = true
theorem nice_all {n : Nat} : ∀ {xs : List PyData}, (∀ x ∈ xs, Nice n x) → noDictA xs = true ∧ PyData.canLayAll0 xs = true ∧ PyData.depthAll xs ≤ n ∧ PyData.eqvAll xs xs = true
  | [], _ => ⟨rfl, rfl, by simp [PyData.depthAll], rfl⟩
  | x :: xs, h => by
    have h1 := h x List.mem_cons_self
    obtain ⟨a, b, c, d⟩ := nice_all fun y hy => h y (List.mem_cons_of_mem _ hy)
    refine ⟨?_, ?_, ?_, ?_⟩
    · show (noDict x && noDictA xs) = true
      rw [h1.nd, a]
      rfl
    · show (x.canLay0 && PyData.canLayAll0 xs) = true
      rw [h1.cl, b]
      rfl
    · simp only [PyData.depthAll]
      have := h1.dp
      omega
    · show (PyData.eqv x x && PyData.eqvAll xs xs) = true
      rw [h1.eq, d]
      rfl
theorem nice_list {n : Nat} {xs : List PyData} (h : ∀ x ∈ xs, Nice n x) : Nice (n + 1) (.list xs) := by
  obtain ⟨a, b, c, d⟩ := nice_all h
  exact ⟨a, b, by simp only [PyData.depth]; omega, d⟩
theorem nice_tup {n : Nat} {xs : List PyData} (h : ∀ x ∈ xs, Nice n x) : Nice (n + 1) (.tuple xs) := by
  obtain ⟨a, b, c, d⟩ := nice_all h
  exact ⟨a, b, by simp only [PyData.depth]; omega, d⟩
theorem nice_str {x : Str} (h : PyData.canLay0 (.str x) = true) : Nice 1 (.str x) := ⟨rfl, h, by simp [PyData.depth], by simp [PyData.eqv]⟩
theorem nice_int (x : Int) : Nice 1 (.int x) := ⟨rfl, rfl, by simp [PyData.depth], by simp [PyData.eqv]⟩
theorem od_neSame {S : Sh} {s1 s2 : Sl} {d : PyData} (h1 : s1.dat d) (h2 : s2.dat d) (h : Nice 60 d) : OD S (compareOp .NotEq) s1 s2 (.im (.bool false)) := by
  have hs : SeqAt.shaped d = true := by
    unfold SeqAt.shaped
    exact Bool.and_eq_true_iff.mpr ⟨h.cl, decide_eq_true (by have := h.dp; omega)⟩
  have := od_ne (S := S) h1 h2 h.nd h.nd hs hs
  rw [h.eq] at this
  exact this
theorem Nice.up {n m : Nat} {d : PyData} (h : Nice n d) (l : n ≤ m) : Nice m d := ⟨h.nd, h.cl, by have := h.dp; omega, h.eq⟩
theorem od_eqSame {S : Sh} {s1 s2 : Sl} {d : PyData} (h1 : s1.dat d) (h2 : s2.dat d) (h : Nice 60 d) : OD S (compareOp .Eq) s1 s2 (.im (.bool true)) := by
  have hs : SeqAt.shaped d = true := by
    unfold SeqAt.shaped
    exact Bool.and_eq_true_iff.mpr ⟨h.cl, decide_eq_true (by have := h.dp; omega)⟩
  have := od_eq (S := S) h1 h2 h.nd h.nd hs hs
  rw [h.eq] at this
  exact this
theorem Nice.shaped {d : PyData} (h : Nice 60 d) : SeqAt.shaped d = true := by
  unfold SeqAt.shaped
  exact Bool.and_eq_true_iff.mpr ⟨h.cl, decide_eq_true (by have := h.dp; omega)⟩
theorem nice_none : Nice 1 .none := ⟨rfl, rfl, by simp [PyData.depth], by simp [PyData.eqv]⟩
theorem nice_nil : Nice 60 (.list []) := (nice_list (n := 1) fun x hx => absurd hx List.not_mem_nil).up (by decide)
theorem od_neNil {S : Sh} {s1 s2 : Sl} {d : PyData} {ds : List PyData} (h1 : s1.dat (.list (d :: ds))) (h2 : s2.dat (.list [])) (h : Nice 60 (.list (d :: ds))) : OD S (compareOp .NotEq) s1 s2 (.im (.bool true)) := by
  have := od_ne (S := S) h1 h2 h.nd rfl h.shaped nice_nil.shaped
  exact this
theorem nice_ints (ns : List Int) : Nice 2 (.list (ns.map .int)) := nice_list fun x hx => by
  obtain ⟨i, _, rfl⟩ := List.mem_map.mp hx
  exact nice_int i
theorem nice_intsT (ns : List Int) : Nice 2 (.tuple (ns.map .int)) := nice_tup fun x hx => by
  obtain ⟨i, _, rfl⟩ := List.mem_map.mp hx
  exact nice_int i

/-! ### drawn steps -/
def Pre_law_step (d0 : PyData) (ds : List PyData) : Prop := preScr d0 ∧ ds = []
def R_law_step (_ : PyData) (_ : List PyData) (d : PyData) : Prop := ∃ s, d = stepD s ∧ StpOk s
local macro_rules | `(tactic| walk_at "t") => `(tactic| ((with_reducible show CE _ _ _ (.Call _ _ _ _) _ _) <;> first | refine ce_call (by with_reducible exact ok_cleaned _ (by assumption)) ?_ (Nat.le_of_ble_eq_true rfl)))
local macro_rules | `(tactic| walk_at "t") => `(tactic| ((with_reducible show CallG _ _ _ _) <;> first | refine cret (g_cleaned (by assumption) (by first | omega | decide | (simp; done) | (simp; omega)) (by assumption)) ?_))
theorem ok_law_step (M : Md) (T : Hd M) : FnT M 3 "_law_step" Pre_law_step R_law_step := by
  obtain ⟨f, fd, F, hm, hb⟩ := T.d_law_step
  have nd := sc_law_step.nd
  refine fn_okT F hm hb sc_law_step (fun d0 ds h => ?_) fun E pt d0 ds h => ?_
  · obtain ⟨hs, rfl⟩ := h; rfl
  obtain ⟨hs, rfl⟩ := h
  conv => arg 3; whnf
  show RB _ [.im (d0), .rs (town pt), .no] _ _
  walk_at "kk"
  · rename_i w w0 w1 hw r r0 r1 d hd
    obtain ⟨far, rfl, hf⟩ : ∃ far : Nat, d = .int (far : Nat) ∧ far ≤ 900 := by
      simp only [List.mem_cons, List.not_mem_nil, or_false] at hd
      rcases hd with rfl | rfl | rfl | rfl | rfl
      · exact ⟨0, rfl, by decide⟩
      · exact ⟨1, rfl, by decide⟩
      · exact ⟨2, rfl, by decide⟩
      · exact ⟨15, rfl, by decide⟩
      · exact ⟨900, rfl, by decide⟩
    exact ⟨_, rfl, ⟨.clicks (1 + r).toNat far, by show PyData.tuple [.str "clicks", .int (1 + r), .int (far : Nat)] = .tuple [.str "clicks", .int ((1 + r).toNat : Nat), .int (far : Nat)]; rw [Int.toNat_of_nonneg (by omega)], by omega, by omega, by omega⟩, rfl⟩
  · rename_i w w0 w1 hw1 hw2 r r0 r1
    exact ⟨_, rfl, ⟨.hum (1 + r).toNat, by show PyData.tuple [.str "hum", .int (1 + r)] = .tuple [.str "hum", .int ((1 + r).toNat : Nat)]; rw [Int.toNat_of_nonneg (by omega)], by omega, by omega⟩, rfl⟩
  · rename_i w w0 w1 hw1 hw2 hw3 d hd r r0 r1
    obtain ⟨most, rfl, hm⟩ : ∃ most : Nat, d = .int (most : Nat) ∧ most ≤ 500 := by
      simp only [List.mem_cons, List.not_mem_nil, or_false] at hd
      rcases hd with rfl | rfl | rfl | rfl | rfl
      · exact ⟨0, rfl, by decide⟩
      · exact ⟨1, rfl, by decide⟩
      · exact ⟨1, rfl, by decide⟩
      · exact ⟨9, rfl, by decide⟩
      · exact ⟨500, rfl, by decide⟩
    exact ⟨_, rfl, ⟨.hush most (1 + r).toNat, by show PyData.tuple [.str "hush", .int (most : Nat), .int (1 + r)] = .tuple [.str "hush", .int (most : Nat), .int ((1 + r).toNat : Nat)]; rw [Int.toNat_of_nonneg (by omega)], by omega, by omega, by omega⟩, rfl⟩
  · exact ⟨_, rfl, ⟨.even, rfl, trivial⟩, rfl⟩
section
variable {S : Sh} {ρ : List Sl} {e a : Expr} {es : List Expr} {pos p p2 : Pos} {Q : Sl → List Sl → Prop} {X : Str → Prop} {x y : Str} {j k : Nat} {pt : Addr} {d0 : PyData}
theorem ce_stp (hF : FnT S.toMd k x Pre_law_step R_law_step) (hN : Ix S.N j y) (hj : ρ[j]? = some (.rs (town pt))) (h0 : VE S ρ e (.im d0)) (hs : preScr d0) (q : ∀ s, StpOk s → Q (.im (stepD s)) ρ)
    (hk : k ≤ S.k) (hg : S.sc.names.lookup x = some .globalImplicit) (hv : Vis S.sc y) (nvr : ρ.all noV = true := by rfl)
    (hdb : (x == ("__debug__" : Str)) = false := by decide) (hd : (y == ("__debug__" : Str)) = false := by decide) (hcd : (y == ("__classdict__" : Str)) = false := by decide)
    (he : ∀ X : Cx, starEach (e :: .Name y p2 :: []) X.env = (false, eval e X.env) :: starEach (.Name y p2 :: []) X.env := by intro _; rfl) (hpl : ∀ X : Cx, (backTo pos (starEach (.Name y p2 :: []) X.env)).any (·.1) = false := by intro _; rfl) :
    CE S true ρ (.Call (.Name x p) (e :: .Name y p2 :: []) [] pos) X Q := ce_draw hF hN hj h0 (ci_nil ⟨rfl, rfl⟩) ⟨hs, rfl⟩ (fun d hd => by
      obtain ⟨s, rfl, z⟩ := hd
      exact q s z) hk hg hv nvr hdb hd hcd he hpl
end
/-! ### leading back -/
theorem row_ok {r : List (Int × Int)} {n : Nat} (h : (∀ q ∈ r, (0 ≤ q.1 ∧ q.1 < n) ∧ -2048 ≤ q.2 ∧ q.2 ≤ 2047) ∧ r.Pairwise fun p q => p.1 < q.1) : isRowB (.list (r.map prD)) n = true := by
  show ((r.map prD).all (isPairB n) && (((r.map prD).zip ((r.map prD).drop 1)).all fun q => decide (fst0 q.1 < fst0 q.2))) = true
  rw [Bool.and_eq_true]
  constructor
  · rw [List.all_eq_true]
    intro x hx
    obtain ⟨q, hq, rfl⟩ := List.mem_map.mp hx
    obtain ⟨⟨h1, h2⟩, h3, h4⟩ := h.1 q hq
    show (isWhole (.int q.1) 0 (n - 1) && isWhole (.int q.2) (-2048) 2047) = true
    simp [isWhole]
    omega
  · rw [List.all_eq_true, ← List.map_drop, List.zip_map]
    intro x hx
    obtain ⟨q, hq, rfl⟩ := List.mem_map.mp hx
    exact decide_eq_true (rise_zip h.2 q hq)
theorem g_led_from {ns : List Int} {ss : List Stp} {i : Nat} (h : SndOk ns) (h1 : ss.length ≤ 1000) : G_led_back [.tuple ((cleanS ns ss).map .int), .list (((cleanT ns ss).drop i).map trRow)] (.ret (.tuple ((cleanS ns (ss.take i)).map .int))) := by
  have hb : SndOk (cleanS ns ss) := ⟨by rw [cleanS_len]; exact h.1, cleanS_b ss h.2⟩
  refine ⟨cleanS ns ss, (cleanT ns ss).drop i, rfl, hb, by rw [List.length_drop, cleanT_len]; omega, fun r hr => ?_, by rw [led_from]⟩
  obtain ⟨r1, r2, r3⟩ := cleanT_rows ss h.2 r (List.mem_of_mem_drop hr)
  have := h.1
  refine ⟨by omega, ?_⟩
  rw [cleanS_len]
  exact row_ok ⟨r2, r3⟩
theorem sd_rows {S : Sh} {L : List (List (Int × Int))} {i : Int} (h : 0 ≤ i) : SD S (.im (.list (L.map trRow))) (some i) none (.ow ((L.drop i.toNat).map trRow)) := by
  obtain ⟨k, rfl⟩ := Int.eq_ofNat_of_zero_le h
  have := sd_lst (S := S) (s1 := .im (.list (L.map trRow))) (ds := L.map trRow) (lo := some (k : Int)) (hi := none) (.inl rfl)
  have e : cutD (L.map trRow) (some (k : Int)) none = (L.drop k).map trRow := by
    unfold cutD
    rw [HT.sIx_nat]
    show ((L.map trRow).drop (min k (L.map trRow).length)).take ((L.map trRow).length - min k (L.map trRow).length) = _
    rw [List.length_map, List.map_drop]
    by_cases z : k ≤ L.length
    · rw [Nat.min_eq_left z, List.take_of_length_le (by rw [List.length_drop, List.length_map]; omega)]
    · rw [Nat.min_eq_right (by omega), List.drop_eq_nil_of_le (by simp), List.drop_eq_nil_of_le (by simp; omega), List.take_nil]
  rw [e] at this
  exact this
theorem nice_row (r : List (Int × Int)) : Nice 3 (trRow r) := nice_list fun x hx => by
  obtain ⟨q, _, rfl⟩ := List.mem_map.mp hx
  refine nice_tup (n := 1) fun x hx => ?_
  simp only [List.mem_cons, List.not_mem_nil, or_false] at hx
  rcases hx with rfl | rfl <;> exact nice_int _
theorem nice_rowsT (L : List (List (Int × Int))) : Nice 4 (.list (L.map trRow)) := nice_list fun x hx => by
  obtain ⟨q, _, rfl⟩ := List.mem_map.mp hx
  exact nice_row q
theorem nice_clean (ns : List Int) (ss : List Stp) : Nice 5 (cleanD ns ss) := nice_tup fun x hx => by
  simp only [List.mem_cons, List.not_mem_nil, or_false] at hx
  rcases hx with rfl | rfl
  · exact (nice_intsT _).up (show 2 ≤ 4 by decide)
  · exact nice_rowsT _

/-! ### steps again, plainly -/
theorem fr_congr {a b : List Int} {m : Nat} (h : ∀ t, smallAt a m t = smallAt b m t) (hl : a.length = b.length) : ∀ (k t : Nat), a.length - t = k → runFr a m t = runFr b m t
  | 0, t, hk => by rw [runFr_big (small_out (by omega)), runFr_big (small_out (by omega))]
  | k + 1, t, hk => by
    cases e : smallAt a m t with
    | false =>
      have e2 : smallAt b m t = false := by rw [← h, e]
      rw [runFr_big e, runFr_big e2]
    | true =>
      have e2 : smallAt b m t = true := by rw [← h, e]
      rw [runFr_small e, runFr_small e2, fr_congr h hl k (t + 1) (by omega)]
theorem b4_congr {a b : List Int} {m : Nat} (h : ∀ t, smallAt a m t = smallAt b m t) : ∀ t, runB4 a m t = runB4 b m t
  | 0 => rfl
  | t + 1 => by
    unfold runB4
    rw [h, b4_congr h t]
theorem getD_map_range {f : Nat → Int} {n t : Nat} (h : t < n) : ((List.range n).map f).getD t 0 = f t := by
  rw [List.getD_eq_getElem?_getD, List.getElem?_map, List.getElem?_range h]
  rfl
theorem hush_small (ns : List Int) (m l t : Nat) : smallAt (stepL ns (.hush m l)) m t = smallAt ns m t := by
  by_cases ht : t < ns.length
  · rw [small_iff (by rw [stepL_len]; exact ht), small_iff ht]
    rw [show (stepL ns (.hush m l)).getD t 0 = hushAt ns m l t from getD_map_range ht]
    unfold hushAt
    split
    · rename_i z
      rw [small_iff ht] at z
      rw [z.1, decide_eq_true_iff]
      show absZ 0 ≤ _
      unfold absZ
      split <;> omega
    · rfl
  · rw [small_out (by rw [stepL_len]; omega), small_out (by omega)]
theorem hush_twice (ns : List Int) (m l : Nat) : stepL (stepL ns (.hush m l)) (.hush m l) = stepL ns (.hush m l) := by
  have hs := hush_small ns m l
  show (List.range (stepL ns (.hush m l)).length).map (hushAt (stepL ns (.hush m l)) m l) = (List.range ns.length).map (hushAt ns m l)
  rw [stepL_len]
  refine List.map_congr_left fun t ht => ?_
  have ht' := List.mem_range.mp ht
  have eg : (stepL ns (.hush m l)).getD t 0 = hushAt ns m l t := getD_map_range ht'
  have e1 : hushAt (stepL ns (.hush m l)) m l t = if smallAt ns m t = true ∧ l ≤ runB4 ns m t + runFr ns m t then 0 else hushAt ns m l t := by
    unfold hushAt at eg ⊢
    rw [hs, b4_congr hs, fr_congr hs (stepL_len _ _) _ t rfl, eg]
  rw [e1]
  unfold hushAt
  split <;> rfl
theorem stride_one (ns : List Int) : strideL ns 0 1 = ns := by
  unfold strideL strideN
  have e : (if 0 < ns.length then (ns.length - 0 - 1) / 1 + 1 else 0) = ns.length := by
    split
    · rw [Nat.div_one]
      omega
    · omega
  rw [e]
  apply List.ext_getElem?
  intro t
  rw [List.getElem?_map]
  by_cases ht : t < ns.length
  · rw [List.getElem?_range ht, List.getElem?_eq_getElem ht]
    simp [List.getD_eq_getElem?_getD, List.getElem?_eq_getElem ht]
  · rw [List.getElem?_eq_none (by simp; omega), List.getElem?_eq_none (l := ns) (by omega)]
    rfl
theorem hum_even (ns : List Int) : stepL ns (.hum 1) = stepL ns .even := by
  by_cases h : ns = []
  · subst h
    rfl
  · show (List.range ns.length).map (humAt ns 1) = ns.map fun v => cutOff (v - evenM ns)
    apply List.ext_getElem?
    intro t
    rw [List.getElem?_map, List.getElem?_map]
    by_cases ht : t < ns.length
    · rw [List.getElem?_range ht, List.getElem?_eq_getElem ht]
      show some (humAt ns 1 t) = some (cutOff (ns[t] - evenM ns))
      unfold humAt humM evenM
      rw [Nat.mod_one, stride_one, if_neg h, List.getD_eq_getElem?_getD, List.getElem?_eq_getElem ht]
      rfl
    · rw [List.getElem?_eq_none (by simp; omega), List.getElem?_eq_none (l := ns) (by omega)]
      rfl
theorem clk_far {ns : List Int} (hb : InB4 ns) (near : Nat) : stepL ns (.clicks near 4095) = ns := by
  show (List.range ns.length).map (clkAt ns near 4095) = ns
  apply List.ext_getElem?
  intro t
  rw [List.getElem?_map]
  by_cases ht : t < ns.length
  · rw [List.getElem?_range ht, List.getElem?_eq_getElem ht]
    show some (clkAt ns near 4095 t) = some ns[t]
    have e : ns.getD t 0 = ns[t] := by rw [List.getD_eq_getElem?_getD, List.getElem?_eq_getElem ht]; rfl
    unfold clkAt
    rw [if_neg ?_, e]
    intro ⟨h1, h2⟩
    have a := getD_b hb t
    have b := hb _ (win_mem (mid_mem h1))
    unfold absZ at h2
    split at h2 <;> omega
  · rw [List.getElem?_eq_none (by simp; omega), List.getElem?_eq_none (l := ns) (by omega)]
    rfl
theorem mem_trail {b a : List Int} {q : Int × Int} : q ∈ trailL b a ↔ ∃ (k : Nat) (x y : Int), b[k]? = some x ∧ a[k]? = some y ∧ x ≠ y ∧ q = ((k : Int), x) := by
  unfold trailL
  rw [List.mem_map]
  constructor
  · rintro ⟨⟨⟨x, y⟩, k⟩, h1, rfl⟩
    obtain ⟨h2, h3⟩ := List.mem_filter.mp h1
    rw [List.mem_zipIdx_iff_getElem?] at h2
    obtain ⟨h4, h5⟩ := List.getElem?_zip_eq_some.mp h2
    exact ⟨k, x, y, h4, h5, by simpa using h3, rfl⟩
  · rintro ⟨k, x, y, h1, h2, h3, rfl⟩
    refine ⟨((x, y), k), List.mem_filter.mpr ⟨?_, by simpa using h3⟩, rfl⟩
    rw [List.mem_zipIdx_iff_getElem?]
    exact List.getElem?_zip_eq_some.mpr ⟨h1, h2⟩
theorem clk_less {ns : List Int} {near f g : Nat} (h : f ≤ g) : ∀ q ∈ trailL ns (stepL ns (.clicks near g)), q ∈ trailL ns (stepL ns (.clicks near f)) := by
  intro q hq
  rw [mem_trail] at hq ⊢
  obtain ⟨k, x, y, h1, h2, h3, h4⟩ := hq
  obtain ⟨ht, e⟩ := List.getElem?_eq_some_iff.mp h1
  have e2 : ns.getD k 0 = x := by rw [List.getD_eq_getElem?_getD, h1]; rfl
  have at2 : ∀ f : Nat, (stepL ns (.clicks near f))[k]? = some (clkAt ns near f k) := fun f => by
    show ((List.range ns.length).map (clkAt ns near f))[k]? = _
    rw [List.getElem?_map, List.getElem?_range ht]
    rfl
  rw [at2] at h2
  cases h2
  unfold clkAt at h3
  rw [e2] at h3
  split at h3
  · rename_i z
    refine ⟨k, x, _, h1, at2 f, ?_, h4⟩
    unfold clkAt
    rw [e2, if_pos ⟨z.1, by have := z.2; omega⟩]
    exact h3
  · exact absurd rfl h3

/-! ### the law -/
def c1D (ns : List Int) (s : Stp) : PyData := .tuple [.tuple ((stepL ns s).map .int), .list [trRow (trailL ns (stepL ns s))]]
theorem g_clean1 {ns : List Int} {s : Stp} {d : PyData} (h : SndOk ns) (h1 : StpOk s) (e : d = stepD s) : G_cleaned [.tuple (ns.map .int), .tuple [d]] (.ret (.tuple [.tuple ((stepL ns s).map .int), .list [trRow (trailL ns (stepL ns s))]])) := ⟨ns, [s], by rw [e]; rfl, h, by show 1 ≤ 1000; decide, fun t ht => by rw [List.mem_singleton.mp ht]; exact h1, rfl⟩
theorem nice_c1 (ns : List Int) (s : Stp) : Nice 60 (.tuple [.tuple ((stepL ns s).map .int), .list [trRow (trailL ns (stepL ns s))]]) := (nice_clean ns [s]).up (by decide)
theorem step_snd {ns : List Int} (h : SndOk ns) (s : Stp) : SndOk (stepL ns s) := ⟨by rw [stepL_len]; exact h.1, step_b h.2 s⟩
theorem stps_of : ∀ {acc : List PyData}, (∀ d ∈ acc, ∃ s, d = stepD s ∧ StpOk s) → ∃ ss : List Stp, acc = ss.map stepD ∧ ∀ s ∈ ss, StpOk s
  | [], _ => ⟨[], rfl, fun _ z => nomatch z⟩
  | d :: acc, h => by
    obtain ⟨s, rfl, hp⟩ := h d List.mem_cons_self
    obtain ⟨ss, rfl, hss⟩ := stps_of fun e he => h e (List.mem_cons_of_mem _ he)
    exact ⟨s :: ss, rfl, fun q hq => by
      rcases List.mem_cons.mp hq with rfl | z
      · exact hp
      · exact hss q z⟩
theorem nice_shaped {d : PyData} (h : Nice 60 d) : SeqAt.shaped d = true := by
  unfold SeqAt.shaped
  exact Bool.and_eq_true_iff.mpr ⟨h.cl, decide_eq_true (by have := h.dp; omega)⟩
theorem nice_prD (q : Int × Int) : Nice 2 (prD q) := nice_tup (n := 1) fun x hx => by
  simp only [List.mem_cons, List.not_mem_nil, or_false] at hx
  rcases hx with rfl | rfl <;> exact nice_int _
theorem od_inRow {S : Sh} {A : List (Int × Int)} {q : Int × Int} (h : q ∈ A) : OD S (compareOp .In) (.im (prD q)) (.im (trRow A)) (.im (.bool true)) := by
  have nr := nice_row A
  have := od_inD (S := S) (s1 := .im (prD q)) (s2 := .im (trRow A)) (d := prD q) (ds := A.map prD) rfl rfl rfl nr.nd (nice_shaped ((nice_prD q).up (by decide))) (nice_shaped (nr.up (by decide)))
  rw [show ((A.map prD).any fun z => PyData.eqv z (prD q)) = true from List.any_eq_true.mpr ⟨prD q, List.mem_map.mpr ⟨q, h, rfl⟩, (nice_prD q).eq⟩] at this
  exact this
theorem od_eqSameX {S : Sh} {s1 s2 : Sl} {d : PyData} (h1 : s1.dat d) (h2 : s2.dat d) (h : Nice 60 d) : OD S (compareOp .Eq) s1 s2 (.im (.bool true)) := by
  have hs := nice_shaped h
  have := od_eq (S := S) h1 h2 h.nd h.nd hs hs
  rw [h.eq] at this
  exact this
theorem all_true {α : Type} (xs : List α) : (xs.all fun _ => true) = true := by
  rw [List.all_eq_true]
  exact fun _ _ => rfl
local macro_rules | `(tactic| walk_at "t") => `(tactic| ((with_reducible show CE _ _ _ _ _ _) <;> first | refine' ce_stp (by with_reducible exact ok_law_step _ (by assumption)) (by with_reducible (repeat (first | exact Ix.z | apply Ix.s))) (by rfl) (ve_ce ?_) (by assumption) (fun s hs => ?_) (Nat.le_of_ble_eq_true rfl) (by rfl) (by first | exact Or.inl rfl | exact Or.inr (Or.inl rfl) | exact Or.inr (Or.inr rfl))))
local macro_rules | `(tactic| walk_at "s") => `(tactic| ((with_reducible show SK2 _ (.im (.list (List.map trRow _))) (some _) none _) <;> first | refine sk2 (sd_rows (by first | omega | decide | (simp; done) | (simp; omega))) ?_))
local macro_rules | `(tactic| walk_at "t") => `(tactic| ((with_reducible show CE _ _ _ (.Call _ _ _ _) _ _) <;> first | refine ce_call (by with_reducible exact ok_led_back _ (by assumption)) ?_ (Nat.le_of_ble_eq_true rfl)))
local macro_rules | `(tactic| walk_at "s") => `(tactic| ((with_reducible show XK2 _ (.im (.list (_ ++ [_]))) (.im (.int (-1))) _) <;> first | refine xk2 (xd_lst (.inl rfl) (at_last _ _)) ?_))
local macro_rules | `(tactic| walk_at "s") => `(tactic| ((with_reducible show RB _ _ _ _) <;> ((try dsimp only [List.set]); refine rc_par3 (by with_reducible (repeat (first | exact Ix.z | apply Ix.s))) (by with_reducible (repeat (first | exact Ix.z | apply Ix.s))) (by with_reducible (repeat (first | exact Ix.z | apply Ix.s))) ?_ (by assumption))))
theorem ok_law (M : Md) (T : Hd M) {f : Addr} {fd : FuncData} (F : Fun M.K "law" "law" st_law f fd) (hm : M.mg "law" = some (.ref f)) (hb : Binds M.K fd ["_law_script"] []) : FnOk M.P M.w M.K M.mg M.base (L2N.CX M.P M.w) 6 f fd ["_law_script"] (spLaw M.K) := by
  have nd := sc_law.nd
  refine law_ok F hm hb sc_law fun E ns hns => ?_
  conv => arg 3; whnf
  show RB _ [.im (.list (ns.map .int)), .no, .no, .no, .no, .no, .no, .no, .no, .no, .no, .no, .no, .no, .no, .no] _ _
  have hs : preScr (.list (ns.map .int)) := ⟨ns, rfl, hns⟩
  refine rc_asg (by with_reducible (repeat (first | exact Ix.z | apply Ix.s))) (ce_lst (ci_cons (ce_int (imk (ci_cons (ce_int (imk (ci_nil ⟨by decide, ?_⟩)))))))) nd
  refine rc_town 1 rfl (by decide) fun pt => ?_
  dsimp only [List.set]
  walk_at "kk"
  rename_i x x1 x2 d hd r r0 r1
  have hxO : SndOk x := ⟨by omega, x2⟩
  obtain ⟨most, rfl, hm⟩ : ∃ most : Nat, d = .int (most : Nat) ∧ most ≤ 30 := by
    simp only [List.mem_cons, List.not_mem_nil, or_false] at hd
    rcases hd with rfl | rfl | rfl | rfl
    · exact ⟨0, rfl, by decide⟩
    · exact ⟨1, rfl, by decide⟩
    · exact ⟨2, rfl, by decide⟩
    · exact ⟨30, rfl, by decide⟩
  obtain ⟨l, hl, l1, l2⟩ : ∃ l : Nat, 1 + r = (l : Nat) ∧ 1 ≤ l ∧ l ≤ 4 := ⟨(1 + r).toNat, by rw [Int.toNat_of_nonneg (by omega)], by omega, by omega⟩
  rw [hl]
  have hs : StpOk (.hush most l) := ⟨by omega, l1, by omega⟩
  refine cret (g_clean1 (s := .hush most l) hxO hs rfl) ?_
  dsimp only [List.set]
  have hyO := step_snd hxO (.hush most l)
  have tw := hush_twice x most l
  generalize stepL x (.hush most l) = y at hyO tw ⊢
  walk_at "kk"
  refine cret (g_clean1 (s := .hush most l) hyO hs rfl) ?_
  have hn := nice_c1 y (.hush most l)
  rw [tw, trail_same] at hn ⊢
  walk_at "kk"
  refine ok2 (od_neSame (d := .tuple [.tuple (y.map .int), .list [trRow []]]) rfl rfl hn) ?_
  walk_at "kk"
  refine cret (g_clean1 (s := .hum 1) hxO ⟨by decide, by decide⟩ rfl) ?_
  walk_at "kk"
  refine cret (g_clean1 (s := .even) hxO trivial rfl) ?_
  rw [hum_even]
  walk_at "kk"
  refine ok2 (od_neSame rfl rfl (nice_c1 x .even)) ?_
  walk_at "kk"
  refine ce_draws [("_law_k", 14)] (fun n => n = 3) (fun d => ∃ s, d = stepD s ∧ StpOk s) T.b_range ?_ (fun n i hn hi => ?_) (fun acc hal hacc => ?_)
  · walk_at "kk"
    exact ⟨rfl, .inl ⟨_, rfl, 3, rfl, by decide, rfl⟩⟩
  · walk_at "cb"
    walk_at "kk"
    rename_i s hs
    exact ⟨rfl, .inl ⟨_, rfl, s, rfl, hs⟩⟩
  obtain ⟨ss, rfl, hss⟩ := stps_of hacc
  rw [List.length_map] at hal
  walk_at "kk"
  refine rpar3 ?_
  dsimp only [List.set]
  refine rc_forE (xs := ss) (inj := stepD) (fun pre => [.im (.list (ns.map .int)), .rs (town pt), .im (.tuple (x.map .int)), .no, .no, .im (.list (ss.map stepD)), .im (.tuple ((cleanS x pre).map .int)), .ow ((cleanT x pre).map trRow), .no, .no, .no, .no, .no, .no, .no, .no]) (ix_list (ve_ce ?_)) (by walk_at "fg") (fun pre s post hq => ?_) ?_
  · walk_at "kk"
  · have hS' : StpOk s := hss s (by rw [hq]; simp)
    have hpl : pre.length ≤ 3 := by have e1 := congrArg List.length hq; rw [List.length_append, List.length_cons] at e1; omega
    have h2 := cleanT_len pre x
    have hyO : SndOk (cleanS x pre) := ⟨by rw [cleanS_len]; exact hxO.1, cleanS_b pre hxO.2⟩
    rw [cleanS_app, cleanT_app, List.map_append]
    refine ⟨_, _, by walk_at "gd", ?_⟩
    dsimp only [List.set]
    generalize cleanS x pre = y at hyO ⊢
    refine rc_asgG ?_
    walk_at "kk"
    refine cret (g_clean1 hyO hS' rfl) ?_
    walk_at "kk"
    refine ⟨_, _, by walk_at "gd", ?_⟩
    dsimp only [List.set]
    refine rc_extB (by with_reducible (repeat (first | exact Ix.z | apply Ix.s))) (by rfl) (by first | exact Or.inl rfl | exact Or.inr (Or.inl rfl) | exact Or.inr (Or.inr rfl)) ?_
    walk_at "kk"
    refine ⟨_, _, .inl rfl, rfl, by rw [List.length_map, h2]; show _ + 1 ≤ _; omega, rfl, ?_⟩
    dsimp only [List.set]
    walk_at "kk"
    walk_at "fg"
  · refine rb_ice 7 rfl ?_
    dsimp only [List.set]
    have hl1 : ss.length ≤ 1000 := by omega
    walk_at "kk"
    refine ok2 (od_neSame (d := cleanD x ss) rfl rfl ((nice_clean x ss).up (by decide))) ?_
    walk_at "kk"
    refine cret (g_led_from (i := 0) hxO hl1) ?_
    rw [List.take_zero, show cleanS x [] = x from rfl]
    walk_at "kk"
    rename_i rn n0 n1 rf f0 f1
    obtain ⟨near, hn, hn1, hn2⟩ : ∃ near : Nat, 1 + rn = (near : Nat) ∧ 1 ≤ near ∧ near ≤ 3 := ⟨(1 + rn).toNat, by rw [Int.toNat_of_nonneg (by omega)], by omega, by omega⟩
    obtain ⟨far, rfl⟩ := Int.eq_ofNat_of_zero_le f0
    rw [hn]
    refine cret (g_clean1 (s := .clicks near far) hxO ⟨hn1, by omega, by omega⟩ rfl) ?_
    walk_at "kk"
    rename_i rg g0 g1
    obtain ⟨far2, hf2⟩ : ∃ far2 : Nat, (far : Int) + 1 + rg = (far2 : Nat) := ⟨((far : Int) + 1 + rg).toNat, by rw [Int.toNat_of_nonneg (by omega)]⟩
    rw [hf2]
    refine cret (g_clean1 (s := .clicks near far2) hxO ⟨hn1, by omega, by omega⟩ rfl) ?_
    have hsub := clk_less (ns := x) (near := near) (f := far) (g := far2) (by omega)
    have ht1 := trail_len x (stepL x (.clicks near far))
    have ht2 := trail_len x (stepL x (.clicks near far2))
    generalize trailL x (stepL x (.clicks near far)) = A at hsub ht1 ⊢
    generalize trailL x (stepL x (.clicks near far2)) = Bt at hsub ht2 ⊢
    walk_at "kk"
    refine ce_lc [("_law_one", 15)] (xs := Bt) (inj := prD) (fun _ => .bool true) (ix_list (ve_ce ?_)) (fun q hq => ?_) (by omega) ?_
    · walk_at "kk"
    · walk_at "cb"
      walk_at "kk"
      refine ok2 (od_inRow (hsub q hq)) ?_
      walk_at "kk"
    · walk_at "kk"
      rw [all_true]
      walk_at "kk"
      refine cret (g_clean1 (s := .clicks near 4095) hxO ⟨hn1, by omega, by omega⟩ rfl) ?_
      rw [clk_far hxO.2, trail_same]
      walk_at "kk"
      refine ok2 (od_eqSameX (d := .list [.list []]) rfl rfl ((nice_list (n := 1) fun y hy => ?_).up (show 2 ≤ 60 by decide))) ?_
      · rw [List.mem_singleton.mp hy]
        exact nice_list (n := 0) fun _ z => nomatch z
      · walk_at "kk"

theorem hd_mk {P : Program} {w : World} {K : PySem.W.Frag} {mg : Str → Option Value} {h : Heap} (X : K.In h) (G : h.Ns mainGlobals mg)
    {f0 : Addr} {oc0 kV0 dc0 pm0 cd0 ct0 : Value} {od0 an0 : Option Addr} {sl0 : Array (Option Value)}
    {f1 : Addr} {oc1 kV1 dc1 pm1 cd1 ct1 : Value} {od1 an1 : Option Addr} {sl1 : Array (Option Value)}
    {f2 : Addr} {oc2 kV2 dc2 pm2 cd2 ct2 : Value} {od2 an2 : Option Addr} {sl2 : Array (Option Value)}
    {f3 : Addr} {oc3 kV3 dc3 pm3 cd3 ct3 : Value} {od3 an3 : Option Addr} {sl3 : Array (Option Value)}
    {f4 : Addr} {oc4 kV4 dc4 pm4 cd4 ct4 : Value} {od4 an4 : Option Addr} {sl4 : Array (Option Value)}
    {f5 : Addr} {oc5 kV5 dc5 pm5 cd5 ct5 : Value} {od5 an5 : Option Addr} {sl5 : Array (Option Value)}
    {f6 : Addr} {oc6 kV6 dc6 pm6 cd6 ct6 : Value} {od6 an6 : Option Addr} {sl6 : Array (Option Value)}
    {f7 : Addr} {oc7 kV7 dc7 pm7 cd7 ct7 : Value} {od7 an7 : Option Addr} {sl7 : Array (Option Value)}
    {f8 : Addr} {oc8 kV8 dc8 pm8 cd8 ct8 : Value} {od8 an8 : Option Addr} {sl8 : Array (Option Value)}
    {f9 : Addr} {oc9 kV9 dc9 pm9 cd9 ct9 : Value} {od9 an9 : Option Addr} {sl9 : Array (Option Value)}
    {f10 : Addr} {oc10 kV10 dc10 pm10 cd10 ct10 : Value} {od10 an10 : Option Addr} {sl10 : Array (Option Value)}
    {f11 : Addr} {oc11 kV11 dc11 pm11 cd11 ct11 : Value} {od11 an11 : Option Addr} {sl11 : Array (Option Value)}
    {f12 : Addr} {oc12 kV12 dc12 pm12 cd12 ct12 : Value} {od12 an12 : Option Addr} {sl12 : Array (Option Value)}
    {f13 : Addr} {oc13 kV13 dc13 pm13 cd13 ct13 : Value} {od13 an13 : Option Addr} {sl13 : Array (Option Value)}
    {f14 : Addr} {oc14 kV14 dc14 pm14 cd14 ct14 : Value} {od14 an14 : Option Addr} {sl14 : Array (Option Value)}
    {f15 : Addr} {oc15 kV15 dc15 pm15 cd15 ct15 : Value} {od15 an15 : Option Addr} {sl15 : Array (Option Value)}
    {f16 : Addr} {oc16 kV16 dc16 pm16 cd16 ct16 : Value} {od16 an16 : Option Addr} {sl16 : Array (Option Value)}
    {f17 : Addr} {oc17 kV17 dc17 pm17 cd17 ct17 : Value} {od17 an17 : Option Addr} {sl17 : Array (Option Value)}
    {f18 : Addr} {oc18 kV18 dc18 pm18 cd18 ct18 : Value} {od18 an18 : Option Addr} {sl18 : Array (Option Value)}
    {f19 : Addr} {oc19 kV19 dc19 pm19 cd19 ct19 : Value} {od19 an19 : Option Addr} {sl19 : Array (Option Value)}
    {f20 : Addr} {oc20 kV20 dc20 pm20 cd20 ct20 : Value} {od20 an20 : Option Addr} {sl20 : Array (Option Value)}
    {f21 : Addr} {oc21 kV21 dc21 pm21 cd21 ct21 : Value} {od21 an21 : Option Addr} {sl21 : Array (Option Value)}
    (a0 : PySem.W.nsIn K mainGlobals "_law_draw" = some (some (.ref f0))) (l0 : K.lookup f0 = some ⟨oc0, od0, .func (PySem.W.fnOf "_law_draw" "_law_draw" (defArgs st_law_draw) (defBody st_law_draw) (defScope st_law_draw) .none kV0 dc0 pm0 an0 cd0 ct0), sl0⟩) (e0 : PySem.W.codeIn K cd0 "_law_draw" = true) (k0 : PySem.W.keepIn K (.ref f0) = true)
    (a1 : PySem.W.nsIn K mainGlobals "_law_pick" = some (some (.ref f1))) (l1 : K.lookup f1 = some ⟨oc1, od1, .func (PySem.W.fnOf "_law_pick" "_law_pick" (defArgs st_law_pick) (defBody st_law_pick) (defScope st_law_pick) .none kV1 dc1 pm1 an1 cd1 ct1), sl1⟩) (e1 : PySem.W.codeIn K cd1 "_law_pick" = true) (k1 : PySem.W.keepIn K (.ref f1) = true)
    (a2 : PySem.W.nsIn K mainGlobals "_law_sound" = some (some (.ref f2))) (l2 : K.lookup f2 = some ⟨oc2, od2, .func (PySem.W.fnOf "_law_sound" "_law_sound" (defArgs st_law_sound) (defBody st_law_sound) (defScope st_law_sound) .none kV2 dc2 pm2 an2 cd2 ct2), sl2⟩) (e2 : PySem.W.codeIn K cd2 "_law_sound" = true) (k2 : PySem.W.keepIn K (.ref f2) = true)
    (a3 : PySem.W.nsIn K mainGlobals "is_whole" = some (some (.ref f3))) (l3 : K.lookup f3 = some ⟨oc3, od3, .func (PySem.W.fnOf "is_whole" "is_whole" (defArgs st_is_whole) (defBody st_is_whole) (defScope st_is_whole) .none kV3 dc3 pm3 an3 cd3 ct3), sl3⟩) (e3 : PySem.W.codeIn K cd3 "is_whole" = true) (k3 : PySem.W.keepIn K (.ref f3) = true)
    (a4 : PySem.W.nsIn K mainGlobals "is_sound" = some (some (.ref f4))) (l4 : K.lookup f4 = some ⟨oc4, od4, .func (PySem.W.fnOf "is_sound" "is_sound" (defArgs st_is_sound) (defBody st_is_sound) (defScope st_is_sound) .none kV4 dc4 pm4 an4 cd4 ct4), sl4⟩) (e4 : PySem.W.codeIn K cd4 "is_sound" = true) (k4 : PySem.W.keepIn K (.ref f4) = true)
    (a5 : PySem.W.nsIn K mainGlobals "need_sounds" = some (some (.ref f5))) (l5 : K.lookup f5 = some ⟨oc5, od5, .func (PySem.W.fnOf "need_sounds" "need_sounds" (defArgs st_need_sounds) (defBody st_need_sounds) (defScope st_need_sounds) .none kV5 dc5 pm5 an5 cd5 ct5), sl5⟩) (e5 : PySem.W.codeIn K cd5 "need_sounds" = true) (k5 : PySem.W.keepIn K (.ref f5) = true)
    (a6 : PySem.W.nsIn K mainGlobals "is_step" = some (some (.ref f6))) (l6 : K.lookup f6 = some ⟨oc6, od6, .func (PySem.W.fnOf "is_step" "is_step" (defArgs st_is_step) (defBody st_is_step) (defScope st_is_step) .none kV6 dc6 pm6 an6 cd6 ct6), sl6⟩) (e6 : PySem.W.codeIn K cd6 "is_step" = true) (k6 : PySem.W.keepIn K (.ref f6) = true)
    (a7 : PySem.W.nsIn K mainGlobals "are_steps" = some (some (.ref f7))) (l7 : K.lookup f7 = some ⟨oc7, od7, .func (PySem.W.fnOf "are_steps" "are_steps" (defArgs st_are_steps) (defBody st_are_steps) (defScope st_are_steps) .none kV7 dc7 pm7 an7 cd7 ct7), sl7⟩) (e7 : PySem.W.codeIn K cd7 "are_steps" = true) (k7 : PySem.W.keepIn K (.ref f7) = true)
    (a8 : PySem.W.nsIn K mainGlobals "middle" = some (some (.ref f8))) (l8 : K.lookup f8 = some ⟨oc8, od8, .func (PySem.W.fnOf "middle" "middle" (defArgs st_middle) (defBody st_middle) (defScope st_middle) .none kV8 dc8 pm8 an8 cd8 ct8), sl8⟩) (e8 : PySem.W.codeIn K cd8 "middle" = true) (k8 : PySem.W.keepIn K (.ref f8) = true)
    (a9 : PySem.W.nsIn K mainGlobals "without_clicks" = some (some (.ref f9))) (l9 : K.lookup f9 = some ⟨oc9, od9, .func (PySem.W.fnOf "without_clicks" "without_clicks" (defArgs st_without_clicks) (defBody st_without_clicks) (defScope st_without_clicks) .none kV9 dc9 pm9 an9 cd9 ct9), sl9⟩) (e9 : PySem.W.codeIn K cd9 "without_clicks" = true) (k9 : PySem.W.keepIn K (.ref f9) = true)
    (a10 : PySem.W.nsIn K mainGlobals "halved" = some (some (.ref f10))) (l10 : K.lookup f10 = some ⟨oc10, od10, .func (PySem.W.fnOf "halved" "halved" (defArgs st_halved) (defBody st_halved) (defScope st_halved) .none kV10 dc10 pm10 an10 cd10 ct10), sl10⟩) (e10 : PySem.W.codeIn K cd10 "halved" = true) (k10 : PySem.W.keepIn K (.ref f10) = true)
    (a11 : PySem.W.nsIn K mainGlobals "cut_off" = some (some (.ref f11))) (l11 : K.lookup f11 = some ⟨oc11, od11, .func (PySem.W.fnOf "cut_off" "cut_off" (defArgs st_cut_off) (defBody st_cut_off) (defScope st_cut_off) .none kV11 dc11 pm11 an11 cd11 ct11), sl11⟩) (e11 : PySem.W.codeIn K cd11 "cut_off" = true) (k11 : PySem.W.keepIn K (.ref f11) = true)
    (a12 : PySem.W.nsIn K mainGlobals "without_hum" = some (some (.ref f12))) (l12 : K.lookup f12 = some ⟨oc12, od12, .func (PySem.W.fnOf "without_hum" "without_hum" (defArgs st_without_hum) (defBody st_without_hum) (defScope st_without_hum) .none kV12 dc12 pm12 an12 cd12 ct12), sl12⟩) (e12 : PySem.W.codeIn K cd12 "without_hum" = true) (k12 : PySem.W.keepIn K (.ref f12) = true)
    (a13 : PySem.W.nsIn K mainGlobals "without_hush" = some (some (.ref f13))) (l13 : K.lookup f13 = some ⟨oc13, od13, .func (PySem.W.fnOf "without_hush" "without_hush" (defArgs st_without_hush) (defBody st_without_hush) (defScope st_without_hush) .none kV13 dc13 pm13 an13 cd13 ct13), sl13⟩) (e13 : PySem.W.codeIn K cd13 "without_hush" = true) (k13 : PySem.W.keepIn K (.ref f13) = true)
    (a14 : PySem.W.nsIn K mainGlobals "stepped" = some (some (.ref f14))) (l14 : K.lookup f14 = some ⟨oc14, od14, .func (PySem.W.fnOf "stepped" "stepped" (defArgs st_stepped) (defBody st_stepped) (defScope st_stepped) .none kV14 dc14 pm14 an14 cd14 ct14), sl14⟩) (e14 : PySem.W.codeIn K cd14 "stepped" = true) (k14 : PySem.W.keepIn K (.ref f14) = true)
    (a15 : PySem.W.nsIn K mainGlobals "trail_of" = some (some (.ref f15))) (l15 : K.lookup f15 = some ⟨oc15, od15, .func (PySem.W.fnOf "trail_of" "trail_of" (defArgs st_trail_of) (defBody st_trail_of) (defScope st_trail_of) .none kV15 dc15 pm15 an15 cd15 ct15), sl15⟩) (e15 : PySem.W.codeIn K cd15 "trail_of" = true) (k15 : PySem.W.keepIn K (.ref f15) = true)
    (a16 : PySem.W.nsIn K mainGlobals "cleaned" = some (some (.ref f16))) (l16 : K.lookup f16 = some ⟨oc16, od16, .func (PySem.W.fnOf "cleaned" "cleaned" (defArgs st_cleaned) (defBody st_cleaned) (defScope st_cleaned) .none kV16 dc16 pm16 an16 cd16 ct16), sl16⟩) (e16 : PySem.W.codeIn K cd16 "cleaned" = true) (k16 : PySem.W.keepIn K (.ref f16) = true)
    (a17 : PySem.W.nsIn K mainGlobals "_law_step" = some (some (.ref f17))) (l17 : K.lookup f17 = some ⟨oc17, od17, .func (PySem.W.fnOf "_law_step" "_law_step" (defArgs st_law_step) (defBody st_law_step) (defScope st_law_step) .none kV17 dc17 pm17 an17 cd17 ct17), sl17⟩) (e17 : PySem.W.codeIn K cd17 "_law_step" = true) (k17 : PySem.W.keepIn K (.ref f17) = true)
    (a18 : PySem.W.nsIn K mainGlobals "put_back" = some (some (.ref f18))) (l18 : K.lookup f18 = some ⟨oc18, od18, .func (PySem.W.fnOf "put_back" "put_back" (defArgs st_put_back) (defBody st_put_back) (defScope st_put_back) .none kV18 dc18 pm18 an18 cd18 ct18), sl18⟩) (e18 : PySem.W.codeIn K cd18 "put_back" = true) (k18 : PySem.W.keepIn K (.ref f18) = true)
    (a19 : PySem.W.nsIn K mainGlobals "is_row" = some (some (.ref f19))) (l19 : K.lookup f19 = some ⟨oc19, od19, .func (PySem.W.fnOf "is_row" "is_row" (defArgs st_is_row) (defBody st_is_row) (defScope st_is_row) .none kV19 dc19 pm19 an19 cd19 ct19), sl19⟩) (e19 : PySem.W.codeIn K cd19 "is_row" = true) (k19 : PySem.W.keepIn K (.ref f19) = true)
    (a20 : PySem.W.nsIn K mainGlobals "led_back" = some (some (.ref f20))) (l20 : K.lookup f20 = some ⟨oc20, od20, .func (PySem.W.fnOf "led_back" "led_back" (defArgs st_led_back) (defBody st_led_back) (defScope st_led_back) .none kV20 dc20 pm20 an20 cd20 ct20), sl20⟩) (e20 : PySem.W.codeIn K cd20 "led_back" = true) (k20 : PySem.W.keepIn K (.ref f20) = true)
    (a21 : PySem.W.nsIn K mainGlobals "law" = some (some (.ref f21))) (l21 : K.lookup f21 = some ⟨oc21, od21, .func (PySem.W.fnOf "law" "law" (defArgs st_law) (defBody st_law) (defScope st_law) .none kV21 dc21 pm21 an21 cd21 ct21), sl21⟩) (e21 : PySem.W.codeIn K cd21 "law" = true) (k21 : PySem.W.keepIn K (.ref f21) = true)
    (z0 : PySem.W.nsIn K mainGlobals "len" = some none)
    (z1 : PySem.W.nsIn K mainGlobals "tuple" = some none)
    (z2 : PySem.W.nsIn K mainGlobals "range" = some none)
    (z3 : PySem.W.nsIn K mainGlobals "isinstance" = some none)
    (z4 : PySem.W.nsIn K mainGlobals "int" = some none)
    (z5 : PySem.W.nsIn K mainGlobals "bool" = some none)
    (z6 : PySem.W.nsIn K mainGlobals "all" = some none)
    (z7 : PySem.W.nsIn K mainGlobals "str" = some none)
    (z8 : PySem.W.nsIn K mainGlobals "sorted" = some none)
    (z9 : PySem.W.nsIn K mainGlobals "enumerate" = some none)
    (z10 : PySem.W.nsIn K mainGlobals "max" = some none)
    (z11 : PySem.W.nsIn K mainGlobals "abs" = some none)
    (z12 : PySem.W.nsIn K mainGlobals "min" = some none)
    (z13 : PySem.W.nsIn K mainGlobals "list" = some none)
    (z14 : PySem.W.nsIn K mainGlobals "sum" = some none)
    (z15 : PySem.W.nsIn K mainGlobals "zip" = some none)
    {t0 : Tok} (c0 : PySem.W.nsIn K mainGlobals "LONGEST" = some (some (.int (2000) t0)))
    {t1 : Tok} (c1 : PySem.W.nsIn K mainGlobals "LOW" = some (some (.int (-2048) t1)))
    {t2 : Tok} (c2 : PySem.W.nsIn K mainGlobals "HIGH" = some (some (.int (2047) t2)))
    (base : Heap) : Hd ⟨P, w, K, mg, base⟩ where
  b_len := PySem.W.mg_none_of X G z0
  b_tuple := PySem.W.mg_none_of X G z1
  b_range := PySem.W.mg_none_of X G z2
  b_isinstance := PySem.W.mg_none_of X G z3
  b_int := PySem.W.mg_none_of X G z4
  b_bool := PySem.W.mg_none_of X G z5
  b_all := PySem.W.mg_none_of X G z6
  b_str := PySem.W.mg_none_of X G z7
  b_sorted := PySem.W.mg_none_of X G z8
  b_enumerate := PySem.W.mg_none_of X G z9
  b_max := PySem.W.mg_none_of X G z10
  b_abs := PySem.W.mg_none_of X G z11
  b_min := PySem.W.mg_none_of X G z12
  b_list := PySem.W.mg_none_of X G z13
  b_sum := PySem.W.mg_none_of X G z14
  b_zip := PySem.W.mg_none_of X G z15
  c_LONGEST := ⟨_, PySem.W.mg_of X G c0⟩
  c_LOW := ⟨_, PySem.W.mg_of X G c1⟩
  c_HIGH := ⟨_, PySem.W.mg_of X G c2⟩
  d_law_draw := def_mk (M := ⟨P, w, K, mg, base⟩) X G a0 l0 e0 k0 fun _ _ _ _ _ _ us hl => match us, hl with | [_, _, _], _ => rfl
  d_law_pick := def_mk (M := ⟨P, w, K, mg, base⟩) X G a1 l1 e1 k1 fun _ _ _ _ _ _ us hl => match us, hl with | [_, _, _], _ => rfl
  d_law_sound := def_mk (M := ⟨P, w, K, mg, base⟩) X G a2 l2 e2 k2 fun _ _ _ _ _ _ us hl => match us, hl with | [_, _, _], _ => rfl
  d_is_whole := def_mk (M := ⟨P, w, K, mg, base⟩) X G a3 l3 e3 k3 fun _ _ _ _ _ _ us hl => match us, hl with | [_, _, _], _ => rfl
  d_is_sound := def_mk (M := ⟨P, w, K, mg, base⟩) X G a4 l4 e4 k4 fun _ _ _ _ _ _ us hl => match us, hl with | [_], _ => rfl
  d_need_sounds := def_mk (M := ⟨P, w, K, mg, base⟩) X G a5 l5 e5 k5 fun _ _ _ _ _ _ us hl => match us, hl with | [_], _ => rfl
  d_is_step := def_mk (M := ⟨P, w, K, mg, base⟩) X G a6 l6 e6 k6 fun _ _ _ _ _ _ us hl => match us, hl with | [_], _ => rfl
  d_are_steps := def_mk (M := ⟨P, w, K, mg, base⟩) X G a7 l7 e7 k7 fun _ _ _ _ _ _ us hl => match us, hl with | [_], _ => rfl
  d_middle := def_mk (M := ⟨P, w, K, mg, base⟩) X G a8 l8 e8 k8 fun _ _ _ _ _ _ us hl => match us, hl with | [_], _ => rfl
  d_without_clicks := def_mk (M := ⟨P, w, K, mg, base⟩) X G a9 l9 e9 k9 fun _ _ _ _ _ _ us hl => match us, hl with | [_, _, _], _ => rfl
  d_halved := def_mk (M := ⟨P, w, K, mg, base⟩) X G a10 l10 e10 k10 fun _ _ _ _ _ _ us hl => match us, hl with | [_, _], _ => rfl
  d_cut_off := def_mk (M := ⟨P, w, K, mg, base⟩) X G a11 l11 e11 k11 fun _ _ _ _ _ _ us hl => match us, hl with | [_], _ => rfl
  d_without_hum := def_mk (M := ⟨P, w, K, mg, base⟩) X G a12 l12 e12 k12 fun _ _ _ _ _ _ us hl => match us, hl with | [_, _], _ => rfl
  d_without_hush := def_mk (M := ⟨P, w, K, mg, base⟩) X G a13 l13 e13 k13 fun _ _ _ _ _ _ us hl => match us, hl with | [_, _, _], _ => rfl
  d_stepped := def_mk (M := ⟨P, w, K, mg, base⟩) X G a14 l14 e14 k14 fun _ _ _ _ _ _ us hl => match us, hl with | [_, _], _ => rfl
  d_trail_of := def_mk (M := ⟨P, w, K, mg, base⟩) X G a15 l15 e15 k15 fun _ _ _ _ _ _ us hl => match us, hl with | [_, _], _ => rfl
  d_cleaned := def_mk (M := ⟨P, w, K, mg, base⟩) X G a16 l16 e16 k16 fun _ _ _ _ _ _ us hl => match us, hl with | [_, _], _ => rfl
  d_law_step := def_mk (M := ⟨P, w, K, mg, base⟩) X G a17 l17 e17 k17 fun _ _ _ _ _ _ us hl => match us, hl with | [_, _], _ => rfl
  d_put_back := def_mk (M := ⟨P, w, K, mg, base⟩) X G a18 l18 e18 k18 fun _ _ _ _ _ _ us hl => match us, hl with | [_, _], _ => rfl
  d_is_row := def_mk (M := ⟨P, w, K, mg, base⟩) X G a19 l19 e19 k19 fun _ _ _ _ _ _ us hl => match us, hl with | [_, _], _ => rfl
  d_led_back := def_mk (M := ⟨P, w, K, mg, base⟩) X G a20 l20 e20 k20 fun _ _ _ _ _ _ us hl => match us, hl with | [_, _], _ => rfl
  d_law := law_mk (M := ⟨P, w, K, mg, base⟩) X G a21 l21 e21 k21 fun _ _ _ _ _ _ us hl => match us, hl with | [_], _ => rfl
end Kl
open PySem PySem.W PyProof.Rows
set_option maxHeartbeats 0 in
theorem PySem.Challenge.cw_keptsounds_k23_whole_steps_again_holds : PySem.Challenge.rw_keptsounds_k23_whole_steps_again.Holds := by
  w_on; o_law; k_head; (case hw => w_witness2)
  k_fill
  refine L2.walk_of (l := PySem.Challenge.rw_keptsounds_k23_whole_steps_again) (n := 63) (k := 6) (x := "_law_script") (CX := fun w => L2N.CX (PySem.Challenge.rw_keptsounds_k23_whole_steps_again).prog w) (sp := fun w => Kd.spLaw _) rfl (by decide) rfl ⟨rfl, by decide, by decide⟩ (fun w h Y => PySem.W.kIn_of Y) ?F (fun _ _ a ns hl _ hS => ⟨a, ns, rfl, hS, hl, fun _ => rfl⟩) (fun _ _ _ _ _ h => by obtain ⟨_, _, _, _, _, _, _, _, _, _, _, _, z⟩ := h; exact z)
  case F =>
    intro w mg fa h KX G hmg
    refine' (fun T => ?main) (Kl.hd_mk (P := (PySem.Challenge.rw_keptsounds_k23_whole_steps_again).prog) (w := w) KX G ?a0 ?l0 ?e0 ?k0 ?a1 ?l1 ?e1 ?k1 ?a2 ?l2 ?e2 ?k2 ?a3 ?l3 ?e3 ?k3 ?a4 ?l4 ?e4 ?k4 ?a5 ?l5 ?e5 ?k5 ?a6 ?l6 ?e6 ?k6 ?a7 ?l7 ?e7 ?k7 ?a8 ?l8 ?e8 ?k8 ?a9 ?l9 ?e9 ?k9 ?a10 ?l10 ?e10 ?k10 ?a11 ?l11 ?e11 ?k11 ?a12 ?l12 ?e12 ?k12 ?a13 ?l13 ?e13 ?k13 ?a14 ?l14 ?e14 ?k14 ?a15 ?l15 ?e15 ?k15 ?a16 ?l16 ?e16 ?k16 ?a17 ?l17 ?e17 ?k17 ?a18 ?l18 ?e18 ?k18 ?a19 ?l19 ?e19 ?k19 ?a20 ?l20 ?e20 ?k20 ?a21 ?l21 ?e21 ?k21 ?z0 ?z1 ?z2 ?z3 ?z4 ?z5 ?z6 ?z7 ?z8 ?z9 ?z10 ?z11 ?z12 ?z13 ?z14 ?z15 ?c0 ?c1 ?c2)
    (case a0 => k_is); (case l0 => k_is); (case e0 => k_is); (case k0 => k_is); (case a1 => k_is); (case l1 => k_is)
    (case e1 => k_is); (case k1 => k_is); (case a2 => k_is); (case l2 => k_is); (case e2 => k_is); (case k2 => k_is)
    (case a3 => k_is); (case l3 => k_is); (case e3 => k_is); (case k3 => k_is); (case a4 => k_is); (case l4 => k_is)
    (case e4 => k_is); (case k4 => k_is); (case a5 => k_is); (case l5 => k_is); (case e5 => k_is); (case k5 => k_is)
    (case a6 => k_is); (case l6 => k_is); (case e6 => k_is); (case k6 => k_is); (case a7 => k_is); (case l7 => k_is)
    (case e7 => k_is); (case k7 => k_is); (case a8 => k_is); (case l8 => k_is); (case e8 => k_is); (case k8 => k_is)
    (case a9 => k_is); (case l9 => k_is); (case e9 => k_is); (case k9 => k_is); (case a10 => k_is); (case l10 => k_is)
    (case e10 => k_is); (case k10 => k_is); (case a11 => k_is); (case l11 => k_is); (case e11 => k_is); (case k11 => k_is)
    (case a12 => k_is); (case l12 => k_is); (case e12 => k_is); (case k12 => k_is); (case a13 => k_is); (case l13 => k_is)
    (case e13 => k_is); (case k13 => k_is); (case a14 => k_is); (case l14 => k_is); (case e14 => k_is); (case k14 => k_is)
    (case a15 => k_is); (case l15 => k_is); (case e15 => k_is); (case k15 => k_is); (case a16 => k_is); (case l16 => k_is)
    (case e16 => k_is); (case k16 => k_is); (case a17 => k_is); (case l17 => k_is); (case e17 => k_is); (case k17 => k_is)
    (case a18 => k_is); (case l18 => k_is); (case e18 => k_is); (case k18 => k_is); (case a19 => k_is); (case l19 => k_is)
    (case e19 => k_is); (case k19 => k_is); (case a20 => k_is); (case l20 => k_is); (case e20 => k_is); (case k20 => k_is)
    (case a21 => k_is); (case l21 => k_is); (case e21 => k_is); (case k21 => k_is); (case z0 => k_is); (case z1 => k_is)
    (case z2 => k_is); (case z3 => k_is); (case z4 => k_is); (case z5 => k_is); (case z6 => k_is); (case z7 => k_is)
    (case z8 => k_is); (case z9 => k_is); (case z10 => k_is); (case z11 => k_is); (case z12 => k_is); (case z13 => k_is)
    (case z14 => k_is); (case z15 => k_is); (case c0 => k_is); (case c1 => k_is); (case c2 => k_is)
    obtain ⟨f, fd, F, hm, hb, ht⟩ := (T default).d_law
    have e := hmg.symm.trans hm
    cases e
    exact ⟨fd, ht, fun base hK hG => Kl.ok_law _ (T base) F hm hb⟩
