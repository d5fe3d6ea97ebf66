import PyProof.Rows.All
import Wide.All
import OpenK.AllK
import Wide.FinOn
import KE.KStateDown
import HandS.ForMost
import HandS.Exc
import HandS.Property
import HandS.Defaults
import HandS.Head0
import HandS.Head1
import HandS.Head2
import HandS.HeadEnd
import HandS.HeadHook1
import HandS.HeadHook2
import HandS.HeadHook3
import HandS.HeadNt
import HandS.IsInst
import HandS.Wide
import HandS.WideBits
import HandS.Codes
import HandS.SetKeys
import HandS.SetFor
import HandS.Strs
import HandS.Conv
import KE.SortData
import PySem.Challenge.RW_whatcomesfree_k66_greatest_of_all_ticks
import HandS.Rev
set_option Elab.async false
set_option linter.all false
set_option maxRecDepth 100000
set_option maxHeartbeats 4000000
/-! the head's hook of my own: defs by any path, facts by Bools -/
namespace KX
open PySem PySem.Spec PyProof.Rows L2
/-- a property's object, its getter -/
def propP (K : PySem.W.Frag) (C : Addr) (f : Str) : Addr := match PySem.W.findIn K (.ref C) f with
  | some (some (.ref p)) => p
  | _ => 0
def propG (K : PySem.W.Frag) (C : Addr) (f : Str) : Addr := match PySem.W.recIn K (propP K C f) "property" with
  | some (.ref g :: _) => g
  | _ => 0
def propB (K : PySem.W.Frag) (C : Addr) (f : Str) : Bool :=
  He.eqO (PySem.W.findIn K (.ref C) f) (some (some (.ref (propP K C f)))) &&
  (He.eqO (PySem.W.specialIn K (.ref (propP K C f)) "__get__") (some (some (.builtin "property.__get__"))) &&
  (decide (PySem.W.takesIn K (.ref (propP K C f)) = some true) &&
  (match PySem.W.recIn K (propP K C f) "property" with
  | some (.ref g :: _) => decide (g = propG K C f)
  | _ => false)))
theorem propB_ok {K : PySem.W.Frag} {C : Addr} {f : Str} (h : propB K C f = true) : PropOf K C f (propP K C f) (propG K C f) := by
  obtain ⟨h1, h⟩ := He.ba h
  obtain ⟨h2, h⟩ := He.ba h
  obtain ⟨h3, h⟩ := He.ba h
  refine ⟨He.eqO_ok h1, He.eqO_ok h2, of_decide_eq_true h3, ?_⟩
  cases e : PySem.W.recIn K (propP K C f) "property" with
  | none =>
    rw [e] at h
    cases h
  | some l =>
    rw [e] at h
    cases l with
    | nil => cases h
    | cons v r =>
      cases v with
      | ref g =>
        have eg : g = propG K C f := of_decide_eq_true h
        exact ⟨r, by rw [eg]⟩
      | _ => cases h
/-- the function object at an address -/
def fdA (K : PySem.W.Frag) (a : Addr) : FuncData := match K.lookup a with
  | some ⟨_, _, .func fd, _⟩ => fd
  | _ => PySem.W.fnOf "" "" ⟨[], [], none, [], [], none, []⟩ [] ⟨.function, [], false, false, []⟩ .none .none .none .none none .none .none
abbrev FDt (K : PySem.W.Frag) (d : He5.DefA) : Prop := FunD K d.name d.qual d.params d.body d.scope (d.dvs K) (d.kws K) (d.at_ K) (fdA K (d.at_ K))
theorem fdt_of {K : PySem.W.Frag} {d : He5.DefA} (e : ∃ fd, FunD K d.name d.qual d.params d.body d.scope (d.dvs K) (d.kws K) (d.at_ K) fd) : FDt K d := by
  obtain ⟨fd, F⟩ := e
  have q : fdA K (d.at_ K) = fd := by
    obtain ⟨oc, od, dV, kV, doc, pm, an, cdv, ct, osl, e1, lk, _⟩ := F.ex
    unfold fdA
    rw [lk]
  unfold FDt
  rw [q]
  exact F
abbrev Bk : Type := PySem.W.Frag → Bool
def obK (ex : List Bk) (fn : List He5.DefA) (K : PySem.W.Frag) : Bool × List He.FnW := ((ex.all fun f => f K) && (fn.all fun d => d.ok K), fn.map fun d => He5.fnA K (d.at_ K))
def vaK (fn : List He5.DefA) : Bool × List He.FnW := (true, fn.map fun d => d.val)
def SayK (ex : List Bk) (fn : List He5.DefA) (K : PySem.W.Frag) : Prop := obK ex fn K = vaK fn
def obG (n : Nat) (ex : List Bk) (fn : List He5.DefA) (g : Addr → Option Obj) : Bool × List He.FnW := obK ex fn (He.frG g (He5.asA g n))
def hoK (n : Nat) (ex : List Bk) (fn : List He5.DefA) : PySem.W.Hook where
  α := Bool × List He.FnW
  obs := fun s => obG n ex fn s.heap.get?
  val := fun _ => vaK fn
  says := fun _ h => ∃ K, K.In h ∧ SayK ex fn K
  of := fun _ _ e => ⟨_, He.frG_in, e⟩
  keeps := fun _ _ _ q k => by
    obtain ⟨K, hK, c⟩ := q
    exact ⟨K, PySem.W.Frag.In.keeps hK k, c⟩
theorem obG_eq {n : Nat} {ex : List Bk} {fn : List He5.DefA} {g : Addr → Option Obj} {s : Shared} (h : ∀ a, g a = s.heap.get? a) : obG n ex fn g = (hoK n ex fn).obs s := by
  have e : g = s.heap.get? := funext h
  subst e
  rfl
section
variable {exs : List Bk} {fn : List He5.DefA} {K : PySem.W.Frag}
theorem SayK.both (c : SayK exs fn K) : (exs.all fun f => f K) = true ∧ (fn.all fun d => d.ok K) = true := He.ba (congrArg Prod.fst c)
theorem SayK.ex (c : SayK exs fn K) (i : Nat) {f : Bk} (h : exs[i]? = some f := by rfl) : f K = true := List.all_eq_true.mp c.both.1 f (List.mem_of_getElem? h)
theorem SayK.fd (c : SayK exs fn K) (i : Nat) {d : He5.DefA} (h : fn[i]? = some d := by rfl) : FDt K d := by
  have e : fn.map (fun d => He5.fnA K (d.at_ K)) = fn.map (fun d => d.val) := congrArg Prod.snd c
  have e2 : (fn.map (fun d => He5.fnA K (d.at_ K)))[i]? = (fn.map (fun d => d.val))[i]? := by rw [e]
  rw [List.getElem?_map, List.getElem?_map, h] at e2
  exact fdt_of (He5.DefA.funD (Option.some.inj e2) (List.all_eq_true.mp c.both.2 d (List.mem_of_getElem? h)))
end
end KX

/-! the world predicate: what is known of the heap at a point of a def -/
namespace KX
open PySem PySem.Spec PyProof.Rows L2
/-! ### data, monotone -/
mutual
theorem dpMono {K : PySem.W.Frag} {G G' : Hp} (e : Same G G') : ∀ (d : PyData) (v : V), Dp K G v d → Dp K G' v d
  | .none, _, h => by
    cases h
    exact .non
  | .bool b, _, h => by
    cases h
    exact .bl b
  | .int i, _, h => by
    cases h
    exact .int i
  | .str x, _, h => by
    cases h
    exact .str x
  | .list ds, _, h => by
    cases h with
    | lst hs ha => exact .lst (e.seq hs) (dpAllMono e ds _ ha)
  | .tuple ds, _, h => by
    cases h with
    | tup hs ha =>
      refine .tup ?_ (dpAllMono e ds _ ha)
      rcases hs with (h | ⟨o, h⟩) | h
      · exact .inl (.inl (e _ _ h))
      · exact .inl (.inr ⟨o, e _ _ h⟩)
      · exact .inr h
  | .dict _, _, h => by cases h
theorem dpAllMono {K : PySem.W.Frag} {G G' : Hp} (e : Same G G') : ∀ (ds : List PyData) (vs : List V), DpAll K G vs ds → DpAll K G' vs ds
  | [], _, h => by
    cases h
    exact .nil
  | d :: ds, _, h => by
    cases h with
    | cons h1 h2 => exact .cons (dpMono e d _ h1) (dpAllMono e ds _ h2)
end
theorem sqtMono {K : PySem.W.Frag} {G G' : Hp} {a : Addr} {xs : List V} (e : Same G G') (h : SqT K G a xs) : SqT K G' a xs := by
  rcases h with (h | ⟨o, h⟩) | h
  · exact .inl (.inl (e _ _ h))
  · exact .inl (.inr ⟨o, e _ _ h⟩)
  · exact .inr h
section
variable {K : PySem.W.Frag} {G : Hp}
theorem dpaLen : ∀ {vs : List V} {ds : List PyData}, DpAll K G vs ds → vs.length = ds.length
  | _, _, .nil => rfl
  | _, _, .cons _ t => congrArg Nat.succ (dpaLen t)
theorem dpaGet : ∀ {vs : List V} {ds : List PyData} {i : Nat} {v : V}, DpAll K G vs ds → vs[i]? = some v → ∃ d, ds[i]? = some d ∧ Dp K G v d
  | _, _, _, _, .nil, h => by simp at h
  | _, _, 0, _, .cons h _, e => by
    simp at e
    subst e
    exact ⟨_, rfl, h⟩
  | _, _, i + 1, _, .cons _ t, e => by
    obtain ⟨d, e1, h⟩ := dpaGet (i := i) t (by simpa using e)
    exact ⟨d, by simpa using e1, h⟩
theorem dpaApp : ∀ {vs ws : List V} {ds es : List PyData}, DpAll K G vs ds → DpAll K G ws es → DpAll K G (vs ++ ws) (ds ++ es)
  | _, _, _, _, .nil, s => s
  | _, _, _, _, .cons h t, s => .cons h (dpaApp t s)
theorem dpaTake : ∀ {vs : List V} {ds : List PyData} (n : Nat), DpAll K G vs ds → DpAll K G (vs.take n) (ds.take n)
  | _, _, 0, _ => .nil
  | _, _, _ + 1, .nil => .nil
  | _, _, n + 1, .cons h t => .cons h (dpaTake n t)
theorem dpaDrop : ∀ {vs : List V} {ds : List PyData} (n : Nat), DpAll K G vs ds → DpAll K G (vs.drop n) (ds.drop n)
  | _, _, 0, h => h
  | _, _, _ + 1, .nil => .nil
  | _, _, n + 1, .cons h t => dpaDrop n t
theorem dpaInts : ∀ {vs : List V} {ns : List Int}, DpAll K G vs (ns.map PyData.int) → vs = ns.map V.int
  | _, [], .nil => rfl
  | _, _ :: _, .cons h t => by
    cases h
    rw [dpaInts t]
    rfl
theorem dpaStrs : ∀ {vs : List V} {ns : List Str}, DpAll K G vs (ns.map PyData.str) → vs = ns.map V.str
  | _, [], .nil => rfl
  | _, _ :: _, .cons h t => by
    cases h
    rw [dpaStrs t]
    rfl
theorem dpaOfInts : ∀ (ns : List Int), DpAll K G (ns.map V.int) (ns.map PyData.int)
  | [] => .nil
  | i :: r => .cons (.int i) (dpaOfInts r)
theorem dpaOfStrs : ∀ (ns : List Str), DpAll K G (ns.map V.str) (ns.map PyData.str)
  | [] => .nil
  | i :: r => .cons (.str i) (dpaOfStrs r)
end
/-! ### places in a list -/
section
variable {α : Type} {l : List α} {a b c d e f g h i : α}
theorem m0 : a ∈ a :: l := .head _
theorem m1 : b ∈ a :: b :: l := .tail _ m0
theorem m2 : c ∈ a :: b :: c :: l := .tail _ m1
theorem m3 : d ∈ a :: b :: c :: d :: l := .tail _ m2
theorem m4 : e ∈ a :: b :: c :: d :: e :: l := .tail _ m3
theorem m5 : f ∈ a :: b :: c :: d :: e :: f :: l := .tail _ m4
theorem m6 : g ∈ a :: b :: c :: d :: e :: f :: g :: l := .tail _ m5
theorem m7 : h ∈ a :: b :: c :: d :: e :: f :: g :: h :: l := .tail _ m6
theorem m8 : i ∈ a :: b :: c :: d :: e :: f :: g :: h :: i :: l := .tail _ m7
theorem in0 : ∀ p ∈ ([] : List α), p ∈ l := fun _ h => (nomatch h)
theorem in1 (h : a ∈ l) : ∀ p ∈ [a], p ∈ l := fun p hp => by
  cases hp with
  | head => exact h
  | tail _ z => cases z
theorem in2 (h : a ∈ l) (h2 : b ∈ l) : ∀ p ∈ [a, b], p ∈ l := fun p hp => by
  cases hp with
  | head => exact h
  | tail _ z => exact in1 h2 p z
theorem in3 (h : a ∈ l) (h2 : b ∈ l) (h3 : c ∈ l) : ∀ p ∈ [a, b, c], p ∈ l := fun p hp => by
  cases hp with
  | head => exact h
  | tail _ z => exact in2 h2 h3 p z
theorem in4 (h : a ∈ l) (h2 : b ∈ l) (h3 : c ∈ l) (h4 : d ∈ l) : ∀ p ∈ [a, b, c, d], p ∈ l := fun p hp => by
  cases hp with
  | head => exact h
  | tail _ z => exact in3 h2 h3 h4 p z
theorem in5 (h : a ∈ l) (h2 : b ∈ l) (h3 : c ∈ l) (h4 : d ∈ l) (h5 : e ∈ l) : ∀ p ∈ [a, b, c, d, e], p ∈ l := fun p hp => by
  cases hp with
  | head => exact h
  | tail _ z => exact in4 h2 h3 h4 h5 p z
theorem inAll : ∀ p ∈ l, p ∈ l := fun _ h => h
theorem inTail : ∀ p ∈ l, p ∈ a :: l := fun _ h => .tail _ h
end
/-! ### facts of the part that stays -/
inductive Pf where
  | all (vs : List V) (ds : List PyData)
  | obj (a : Addr) (o : HO)
  | sq (a : Addr) (vs : List V)
  | st (a : Addr) (vs : List V)
def Pf.ok (K : PySem.W.Frag) (G : Hp) : Pf → Prop
  | .all vs ds => DpAll K G vs ds
  | .obj a o => G a = some o
  | .sq a vs => SqL K G a vs
  | .st a vs => SqT K G a vs
abbrev Pf.one (v : V) (d : PyData) : Pf := .all [v] [d]
theorem Pf.mono {K : PySem.W.Frag} {G G' : Hp} (e : Same G G') : ∀ {p : Pf}, p.ok K G → p.ok K G'
  | .all vs ds, h => dpAllMono e ds vs h
  | .obj a o, h => e a o h
  | .sq a vs, h => e.seq h
  | .st a vs, h => sqtMono e h
abbrev XL := List (Addr × (HO → Prop))
abbrev ML := List (Addr × HO)
/-- xs: objects of the caller's that may change, each with what is true of it; ms: own objects that may change; ps: what stays -/
structure WdG (K : PySem.W.Frag) (G0 H0 G H : Hp) (xs : XL) (ms : ML) (ps : List Pf) : Prop where
  sub : Same G H
  anc : Same G0 G
  out : ∀ a o, H0 a = some o → G0 a = none → G a = none
  frm : ∀ b o, H0 b = some o → b ∉ xs.map Prod.fst → H b = some o
  ext : ∀ p ∈ xs, ∃ o, H p.1 = some o ∧ p.2 o
  exg : ∀ p ∈ xs, G p.1 = none
  mon : ∀ p ∈ ms, H p.1 = some p.2
  mug : ∀ p ∈ ms, G p.1 = none
  own : ∀ p ∈ ms, H0 p.1 = none
  apart : ∀ p ∈ xs, ∀ q ∈ ms, p.1 ≠ q.1
  ndx : (xs.map Prod.fst).Nodup
  nd : (ms.map Prod.fst).Nodup
  per : ∀ p ∈ ps, p.ok K G
def Wd (K : PySem.W.Frag) (G0 H0 H : Hp) (xs : XL) (ms : ML) (ps : List Pf) : Prop := ∃ G, WdG K G0 H0 G H xs ms ps
section
variable {K : PySem.W.Frag} {G0 H0 H : Hp} {xs : XL} {ms : ML} {ps : List Pf} {a p : Addr} {o : HO} {vs : List V} {ds : List PyData} {v : V} {d : PyData}
theorem Wd.enter {G : Hp} (s : Same G H) (f : ∀ p ∈ ps, p.ok K G) (hx : ∀ p ∈ xs, ∃ o, H p.1 = some o ∧ p.2 o) (hg : ∀ p ∈ xs, G p.1 = none) (hn : (xs.map Prod.fst).Nodup) : Wd K G H H xs [] ps :=
  ⟨G, s, fun _ _ h => h, fun _ _ _ h => h, fun _ _ h _ => h, hx, hg, fun _ h => (nomatch h), fun _ h => (nomatch h), fun _ h => (nomatch h), fun _ _ _ h => (nomatch h), hn, List.nodup_nil, f⟩
/-- fewer facts -/
theorem Wd.sub {qs : List Pf} (w : Wd K G0 H0 H xs ms ps) (h : ∀ q ∈ qs, q ∈ ps) : Wd K G0 H0 H xs ms qs := by
  obtain ⟨G, w⟩ := w
  exact ⟨G, w.sub, w.anc, w.out, w.frm, w.ext, w.exg, w.mon, w.mug, w.own, w.apart, w.ndx, w.nd, fun p hp => w.per p (h p hp)⟩
theorem Wd.fresh0 (w : Wd K G0 H0 H xs ms ps) (hp : H p = none) : H0 p = none := by
  obtain ⟨G, w⟩ := w
  cases e : H0 p with
  | none => rfl
  | some u =>
    exfalso
    by_cases hx : p ∈ xs.map Prod.fst
    · obtain ⟨q, hq, rfl⟩ := List.mem_map.mp hx
      obtain ⟨u', hu, _⟩ := w.ext q hq
      rw [hp] at hu
      cases hu
    · rw [w.frm p u e hx] at hp
      cases hp
/-- one fact more, that follows from those that stand -/
theorem Wd.add {q : Pf} (w : Wd K G0 H0 H xs ms ps) (h : ∀ G, Same G H → (∀ p ∈ ps, p.ok K G) → q.ok K G) : Wd K G0 H0 H xs ms (q :: ps) := by
  obtain ⟨G, w⟩ := w
  refine ⟨G, w.sub, w.anc, w.out, w.frm, w.ext, w.exg, w.mon, w.mug, w.own, w.apart, w.ndx, w.nd, fun p hp => ?_⟩
  rcases List.mem_cons.mp hp with e | hp
  · subst e
    exact h G w.sub w.per
  · exact w.per p hp
/-- a new object that stays -/
theorem Wd.newO (w : Wd K G0 H0 H xs ms ps) (hp : H p = none) (o : HO) : Wd K G0 H0 (upd H p o) xs ms (.obj p o :: ps) := by
  have h0 := w.fresh0 hp
  obtain ⟨G, w⟩ := w
  have hg : G p = none := w.sub.free hp
  have nx : ∀ q ∈ xs, q.1 ≠ p := fun q hq => by
    obtain ⟨u, hu, _⟩ := w.ext q hq
    exact ne_of_none hu hp
  have nm : ∀ q ∈ ms, q.1 ≠ p := fun q hq => ne_of_none (w.mon q hq) hp
  have sg : Same G (upd G p o) := fun b u e => by
    rw [upd_ne (ne_of_none e hg)]
    exact e
  refine ⟨upd G p o, fun b u e => ?_, w.anc.trans sg, fun b u e1 e2 => ?_, fun b u e hb => ?_, fun q hq => ?_, fun q hq => ?_, fun q hq => ?_, fun q hq => ?_, w.own, w.apart, w.ndx, w.nd, fun q hq => ?_⟩
  · by_cases hb : b = p
    · subst hb
      rw [upd_same] at e ⊢
      exact e
    · rw [upd_ne hb] at e ⊢
      exact w.sub b u e
  · rw [upd_ne (ne_of_none e1 h0)]
    exact w.out b u e1 e2
  · rw [upd_ne (ne_of_none e h0)]
    exact w.frm b u e hb
  · rw [upd_ne (nx q hq)]
    exact w.ext q hq
  · rw [upd_ne (nx q hq)]
    exact w.exg q hq
  · rw [upd_ne (nm q hq)]
    exact w.mon q hq
  · rw [upd_ne (nm q hq)]
    exact w.mug q hq
  · rcases List.mem_cons.mp hq with e | hq
    · subst e
      exact upd_same
    · exact Pf.mono sg (w.per q hq)
/-- .. of data -/
theorem Wd.newT (w : Wd K G0 H0 H xs ms ps) (hp : H p = none) (h : .all vs ds ∈ ps) : Wd K G0 H0 (upd H p (.tup vs)) xs ms (.one (.ref p) (.tuple ds) :: ps) := by
  refine ((w.newO hp (.tup vs)).add (q := .one (.ref p) (.tuple ds)) fun G _ f => ?_).sub fun q hq => ?_
  · exact .cons (.tup (SqT.of (f _ (List.mem_cons_self ..))) (f _ (List.mem_cons_of_mem _ h))) .nil
  · rcases List.mem_cons.mp hq with e | hq
    · subst e
      exact List.mem_cons_self ..
    · exact List.mem_cons_of_mem _ (List.mem_cons_of_mem _ hq)
theorem Wd.newL (w : Wd K G0 H0 H xs ms ps) (hp : H p = none) (h : .all vs ds ∈ ps) : Wd K G0 H0 (upd H p (.lst vs)) xs ms (.one (.ref p) (.list ds) :: ps) := by
  refine ((w.newO hp (.lst vs)).add (q := .one (.ref p) (.list ds)) fun G _ f => ?_).sub fun q hq => ?_
  · exact .cons (.lst (SqL.of (f _ (List.mem_cons_self ..))) (f _ (List.mem_cons_of_mem _ h))) .nil
  · rcases List.mem_cons.mp hq with e | hq
    · subst e
      exact List.mem_cons_self ..
    · exact List.mem_cons_of_mem _ (List.mem_cons_of_mem _ hq)
/-- a new object that may change -/
theorem Wd.newM (w : Wd K G0 H0 H xs ms ps) (hp : H p = none) (o : HO) : Wd K G0 H0 (upd H p o) xs ((p, o) :: ms) ps := by
  have h0 := w.fresh0 hp
  obtain ⟨G, w⟩ := w
  have hg : G p = none := w.sub.free hp
  have nx : ∀ q ∈ xs, q.1 ≠ p := fun q hq => by
    obtain ⟨u, hu, _⟩ := w.ext q hq
    exact ne_of_none hu hp
  have nm : ∀ q ∈ ms, q.1 ≠ p := fun q hq => ne_of_none (w.mon q hq) hp
  refine ⟨G, fun b u e => ?_, w.anc, w.out, fun b u e hb => ?_, fun q hq => ?_, w.exg, fun q hq => ?_, fun q hq => ?_, fun q hq => ?_, fun q hq r hr => ?_, w.ndx, ?_, w.per⟩
  · rw [upd_ne (ne_of_none e hg)]
    exact w.sub b u e
  · rw [upd_ne (ne_of_none e h0)]
    exact w.frm b u e hb
  · rw [upd_ne (nx q hq)]
    exact w.ext q hq
  · rcases List.mem_cons.mp hq with e | hq
    · subst e
      exact upd_same
    · rw [upd_ne (nm q hq)]
      exact w.mon q hq
  · rcases List.mem_cons.mp hq with e | hq
    · subst e
      exact hg
    · exact w.mug q hq
  · rcases List.mem_cons.mp hq with e | hq
    · subst e
      exact h0
    · exact w.own q hq
  · rcases List.mem_cons.mp hr with e | hr
    · subst e
      exact nx q hq
    · exact w.apart q hq r hr
  · rw [List.map_cons, List.nodup_cons]
    refine ⟨fun hm => ?_, w.nd⟩
    obtain ⟨q, hq, e⟩ := List.mem_map.mp hm
    exact nm q hq e
/-- what stands at an own object -/
theorem Wd.at_ (w : Wd K G0 H0 H xs ms ps) (h : (a, o) ∈ ms) : H a = some o := by
  obtain ⟨G, w⟩ := w
  exact w.mon _ h
theorem Wd.atX {P : HO → Prop} (w : Wd K G0 H0 H xs ms ps) (h : (a, P) ∈ xs) : ∃ o, H a = some o ∧ P o := by
  obtain ⟨G, w⟩ := w
  exact w.ext _ h
theorem Wd.atP (w : Wd K G0 H0 H xs ms ps) (h : Pf.obj a o ∈ ps) : H a = some o := by
  obtain ⟨G, w⟩ := w
  exact w.sub _ _ (w.per _ h)
/-- own objects in another order -/
theorem Wd.perm {ns : ML} (w : Wd K G0 H0 H xs ms ps) (h : ns.Perm ms) : Wd K G0 H0 H xs ns ps := by
  obtain ⟨G, w⟩ := w
  exact ⟨G, w.sub, w.anc, w.out, w.frm, w.ext, w.exg, fun q hq => w.mon q (h.mem_iff.mp hq), fun q hq => w.mug q (h.mem_iff.mp hq), fun q hq => w.own q (h.mem_iff.mp hq), fun p hp q hq => w.apart p hp q (h.mem_iff.mp hq), w.ndx, ((h.map Prod.fst).nodup_iff).mpr w.nd, w.per⟩
/-- own objects forgotten -/
theorem Wd.drop {ns : ML} (w : Wd K G0 H0 H xs ms ps) (h : ns.Sublist ms) : Wd K G0 H0 H xs ns ps := by
  obtain ⟨G, w⟩ := w
  exact ⟨G, w.sub, w.anc, w.out, w.frm, w.ext, w.exg, fun q hq => w.mon q (h.mem hq), fun q hq => w.mug q (h.mem hq), fun q hq => w.own q (h.mem hq), fun p hp q hq => w.apart p hp q (h.mem hq), w.ndx, (h.map Prod.fst).nodup w.nd, w.per⟩
/-- an own object written -/
theorem Wd.put {o' : HO} (w : Wd K G0 H0 H xs ((a, o) :: ms) ps) : Wd K G0 H0 (upd H a o') xs ((a, o') :: ms) ps := by
  obtain ⟨G, w⟩ := w
  have ma : (a, o) ∈ (a, o) :: ms := List.mem_cons_self ..
  have hg : G a = none := w.mug _ ma
  have h0 : H0 a = none := w.own _ ma
  have n1 : a ∉ ms.map Prod.fst ∧ (ms.map Prod.fst).Nodup := by
    have q := w.nd
    rw [List.map_cons, List.nodup_cons] at q
    exact q
  have nm : ∀ q ∈ ms, q.1 ≠ a := fun q hq e => n1.1 (List.mem_map.mpr ⟨q, hq, e⟩)
  have nx : ∀ q ∈ xs, q.1 ≠ a := fun q hq => w.apart q hq _ ma
  refine ⟨G, fun b u e => ?_, w.anc, w.out, fun b u e hb => ?_, fun q hq => ?_, w.exg, fun q hq => ?_, fun q hq => ?_, fun q hq => ?_, fun q hq r hr => ?_, w.ndx, w.nd, w.per⟩
  · rw [upd_ne (ne_of_none e hg)]
    exact w.sub b u e
  · rw [upd_ne (ne_of_none e h0)]
    exact w.frm b u e hb
  · rw [upd_ne (nx q hq)]
    exact w.ext q hq
  · rcases List.mem_cons.mp hq with e | hq
    · subst e
      exact upd_same
    · rw [upd_ne (nm q hq)]
      exact w.mon q (List.mem_cons_of_mem _ hq)
  · rcases List.mem_cons.mp hq with e | hq
    · subst e
      exact hg
    · exact w.mug q (List.mem_cons_of_mem _ hq)
  · rcases List.mem_cons.mp hq with e | hq
    · subst e
      exact h0
    · exact w.own q (List.mem_cons_of_mem _ hq)
  · rcases List.mem_cons.mp hr with e | hr
    · subst e
      exact nx q hq
    · exact w.apart q hq r (List.mem_cons_of_mem _ hr)
/-- an object of the caller's written -/
theorem Wd.putY {P P' : HO → Prop} {o' : HO} (w : Wd K G0 H0 H ((a, P) :: xs) ms ps) (h : P' o') : Wd K G0 H0 (upd H a o') ((a, P') :: xs) ms ps := by
  obtain ⟨G, w⟩ := w
  have ma : (a, P) ∈ (a, P) :: xs := List.mem_cons_self ..
  have hg : G a = none := w.exg _ ma
  have n1 : a ∉ xs.map Prod.fst ∧ (xs.map Prod.fst).Nodup := by
    have q := w.ndx
    rw [List.map_cons, List.nodup_cons] at q
    exact q
  have nx : ∀ q ∈ xs, q.1 ≠ a := fun q hq e => n1.1 (List.mem_map.mpr ⟨q, hq, e⟩)
  have nm : ∀ q ∈ ms, q.1 ≠ a := fun q hq e => w.apart _ ma q hq e.symm
  refine ⟨G, fun b u e => ?_, w.anc, w.out, fun b u e hb => ?_, fun q hq => ?_, fun q hq => ?_, fun q hq => ?_, w.mug, w.own, fun q hq r hr => ?_, w.ndx, w.nd, w.per⟩
  · rw [upd_ne (ne_of_none e hg)]
    exact w.sub b u e
  · have hba : b ≠ a := fun e => hb (by rw [e]; exact List.mem_cons_self ..)
    rw [upd_ne hba]
    exact w.frm b u e hb
  · rcases List.mem_cons.mp hq with e | hq
    · subst e
      exact ⟨o', upd_same, h⟩
    · rw [upd_ne (nx q hq)]
      exact w.ext q (List.mem_cons_of_mem _ hq)
  · rcases List.mem_cons.mp hq with e | hq
    · subst e
      exact hg
    · exact w.exg q (List.mem_cons_of_mem _ hq)
  · rw [upd_ne (nm q hq)]
    exact w.mon q hq
  · rcases List.mem_cons.mp hq with e | hq
    · subst e
      exact w.apart _ ma r hr
    · exact w.apart q (List.mem_cons_of_mem _ hq) r hr
theorem Wd.putX {P : HO → Prop} {o' : HO} (w : Wd K G0 H0 H ((a, P) :: xs) ms ps) (h : P o') : Wd K G0 H0 (upd H a o') ((a, P) :: xs) ms ps := w.putY h
/-- what stood at the start and may not change -/
theorem Wd.keep (w : Wd K G0 H0 H xs ms ps) (h : H0 a = some o) (n : a ∉ xs.map Prod.fst) : H a = some o := by
  obtain ⟨G, w⟩ := w
  exact w.frm _ _ h n
theorem Wd.keep0 (w : Wd K G0 H0 H [] ms ps) (h : H0 a = some o) : H a = some o := w.keep h (fun z => (nomatch z))
/-- an own object changes no more -/
theorem Wd.fix (w : Wd K G0 H0 H xs ((a, o) :: ms) ps) : Wd K G0 H0 H xs ms (.obj a o :: ps) := by
  obtain ⟨G, w⟩ := w
  have ma : (a, o) ∈ (a, o) :: ms := List.mem_cons_self ..
  have hg : G a = none := w.mug _ ma
  have h0 : H0 a = none := w.own _ ma
  have n1 : a ∉ ms.map Prod.fst ∧ (ms.map Prod.fst).Nodup := by
    have q := w.nd
    rw [List.map_cons, List.nodup_cons] at q
    exact q
  have nm : ∀ q ∈ ms, q.1 ≠ a := fun q hq e => n1.1 (List.mem_map.mpr ⟨q, hq, e⟩)
  have nx : ∀ q ∈ xs, q.1 ≠ a := fun q hq => w.apart q hq _ ma
  have sg : Same G (upd G a o) := fun b u e => by
    rw [upd_ne (ne_of_none e hg)]
    exact e
  refine ⟨upd G a o, fun b u e => ?_, w.anc.trans sg, fun b u e1 e2 => ?_, w.frm, w.ext, fun q hq => ?_, fun q hq => w.mon q (List.mem_cons_of_mem _ hq), fun q hq => ?_, fun q hq => w.own q (List.mem_cons_of_mem _ hq), fun q hq r hr => w.apart q hq r (List.mem_cons_of_mem _ hr), w.ndx, n1.2, fun q hq => ?_⟩
  · by_cases hb : b = a
    · subst hb
      rw [upd_same] at e
      cases e
      exact w.mon _ ma
    · rw [upd_ne hb] at e
      exact w.sub b u e
  · rw [upd_ne (ne_of_none e1 h0)]
    exact w.out b u e1 e2
  · rw [upd_ne (nx q hq)]
    exact w.exg q hq
  · rw [upd_ne (nm q hq)]
    exact w.mug q (List.mem_cons_of_mem _ hq)
  · rcases List.mem_cons.mp hq with e | hq
    · subst e
      exact upd_same
    · exact Pf.mono sg (w.per q hq)
theorem Wd.fixL (w : Wd K G0 H0 H xs ((a, .lst vs) :: ms) ps) (h : .all vs ds ∈ ps) : Wd K G0 H0 H xs ms (.one (.ref a) (.list ds) :: ps) := by
  refine (w.fix.add (q := .one (.ref a) (.list ds)) fun G _ f => ?_).sub fun q hq => ?_
  · exact .cons (.lst (SqL.of (f _ (List.mem_cons_self ..))) (f _ (List.mem_cons_of_mem _ h))) .nil
  · rcases List.mem_cons.mp hq with e | hq
    · subst e
      exact List.mem_cons_self ..
    · exact List.mem_cons_of_mem _ (List.mem_cons_of_mem _ hq)
theorem Wd.seq0 (w : Wd K G0 H0 H [] ms ps) (h : SqL K H0 a vs) : SqL K H a vs := by
  obtain ⟨G, w⟩ := w
  exact (show Same H0 H from fun b u e => w.frm b u e (fun z => (nomatch z))).seq h
theorem Wd.sqt0 (w : Wd K G0 H0 H [] ms ps) (h : SqT K H0 a vs) : SqT K H a vs := by
  obtain ⟨G, w⟩ := w
  exact sqtMono (show Same H0 H from fun b u e => w.frm b u e (fun z => (nomatch z))) h
/-! ### what stands in data -/
theorem Wd.all (w : Wd K G0 H0 H xs ms ps) (h : .all vs ds ∈ ps) : DpAll K H vs ds := by
  obtain ⟨G, w⟩ := w
  exact dpAllMono w.sub _ _ (w.per _ h)
theorem Wd.sq (w : Wd K G0 H0 H xs ms ps) (h : Pf.sq a vs ∈ ps) : SqL K H a vs := by
  obtain ⟨G, w⟩ := w
  exact w.sub.seq (w.per _ h)
theorem Wd.st (w : Wd K G0 H0 H xs ms ps) (h : Pf.st a vs ∈ ps) : SqT K H a vs := by
  obtain ⟨G, w⟩ := w
  exact sqtMono w.sub (w.per _ h)
theorem Wd.dp (w : Wd K G0 H0 H xs ms ps) (h : Pf.one v d ∈ ps) : Dp K H v d := by
  have q := w.all h
  cases q with
  | cons q _ => exact q
theorem Wd.lst (w : Wd K G0 H0 H xs ms ps) (h : Pf.one v (.list ds) ∈ ps) : ∃ a vs, v = .ref a ∧ SqL K H a vs ∧ vs.length = ds.length ∧ Wd K G0 H0 H xs ms (.all vs ds :: .sq a vs :: ps) := by
  obtain ⟨G, w⟩ := id w
  have q : DpAll K G [v] [.list ds] := w.per _ h
  cases q with
  | cons q _ =>
    cases q with
    | @lst a us _ hs ha =>
      refine ⟨a, us, rfl, w.sub.seq hs, dpaLen ha, G, w.sub, w.anc, w.out, w.frm, w.ext, w.exg, w.mon, w.mug, w.own, w.apart, w.ndx, w.nd, fun p hp => ?_⟩
      rcases List.mem_cons.mp hp with e | hp
      · subst e
        exact ha
      · rcases List.mem_cons.mp hp with e | hp
        · subst e
          exact hs
        · exact w.per p hp
theorem Wd.tup (w : Wd K G0 H0 H xs ms ps) (h : Pf.one v (.tuple ds) ∈ ps) : ∃ a vs, v = .ref a ∧ SqT K H a vs ∧ vs.length = ds.length ∧ Wd K G0 H0 H xs ms (.all vs ds :: .st a vs :: ps) := by
  obtain ⟨G, w⟩ := id w
  have q : DpAll K G [v] [.tuple ds] := w.per _ h
  cases q with
  | cons q _ =>
    cases q with
    | @tup a us _ hs ha =>
      refine ⟨a, us, rfl, sqtMono w.sub hs, dpaLen ha, G, w.sub, w.anc, w.out, w.frm, w.ext, w.exg, w.mon, w.mug, w.own, w.apart, w.ndx, w.nd, fun p hp => ?_⟩
      rcases List.mem_cons.mp hp with e | hp
      · subst e
        exact ha
      · rcases List.mem_cons.mp hp with e | hp
        · subst e
          exact hs
        · exact w.per p hp
theorem Wd.item {i : Nat} (w : Wd K G0 H0 H xs ms ps) (h : .all vs ds ∈ ps) (e : vs[i]? = some v) : ∃ d, ds[i]? = some d ∧ Wd K G0 H0 H xs ms (.one v d :: ps) := by
  obtain ⟨G, w⟩ := w
  obtain ⟨d, e1, q⟩ := dpaGet (w.per _ h) e
  refine ⟨d, e1, G, w.sub, w.anc, w.out, w.frm, w.ext, w.exg, w.mon, w.mug, w.own, w.apart, w.ndx, w.nd, fun p hp => ?_⟩
  rcases List.mem_cons.mp hp with e | hp
  · subst e
    exact .cons q .nil
  · exact w.per p hp
theorem Wd.itemM {β : Type} {f : β → PyData} {bs : List β} {i : Nat} (w : Wd K G0 H0 H xs ms ps) (h : .all vs (bs.map f) ∈ ps) (e : vs[i]? = some v) : ∃ b, bs[i]? = some b ∧ Wd K G0 H0 H xs ms (.one v (f b) :: ps) := by
  obtain ⟨d, e1, w⟩ := w.item h e
  rw [List.getElem?_map] at e1
  cases e2 : bs[i]? with
  | none =>
    rw [e2] at e1
    cases e1
  | some b =>
    rw [e2] at e1
    cases e1
    exact ⟨b, rfl, w⟩
theorem Wd.lenM {β : Type} {f : β → PyData} {bs : List β} (w : Wd K G0 H0 H xs ms ps) (h : .all vs (bs.map f) ∈ ps) : vs.length = bs.length := by
  have q := dpaLen (w.all h)
  rw [List.length_map] at q
  exact q
theorem Wd.pair {d e : PyData} (w : Wd K G0 H0 H xs ms ps) (h : Pf.one v (.tuple [d, e]) ∈ ps) : ∃ t x y, v = .ref t ∧ SqT K H t [x, y] ∧ Wd K G0 H0 H xs ms (.one x d :: .one y e :: ps) := by
  obtain ⟨t, us, e1, hs, hl, w⟩ := w.tup h
  match us, hl with
  | [x, y], _ =>
    refine ⟨t, x, y, e1, hs, ((w.add (q := .one y e) fun G _ f => ?_).add (q := .one x d) fun G _ f => ?_).sub fun q hq => ?_⟩
    · have z : DpAll K G [x, y] [d, e] := f _ (List.mem_cons_self ..)
      cases z with
      | cons _ z => exact z
    · have z : DpAll K G [x, y] [d, e] := f _ (List.mem_cons_of_mem _ (List.mem_cons_self ..))
      cases z with
      | cons z _ => exact .cons z .nil
    · rcases List.mem_cons.mp hq with e | hq
      · subst e
        exact List.mem_cons_self ..
      · rcases List.mem_cons.mp hq with e | hq
        · subst e
          exact List.mem_cons_of_mem _ (List.mem_cons_self ..)
        · exact List.mem_cons_of_mem _ (List.mem_cons_of_mem _ (List.mem_cons_of_mem _ (List.mem_cons_of_mem _ hq)))
theorem Wd.ii {i j : Int} (w : Wd K G0 H0 H xs ms ps) (h : Pf.one v (.tuple [.int i, .int j]) ∈ ps) : ∃ t, v = .ref t ∧ SqT K H t [.int i, .int j] := by
  obtain ⟨t, x, y, e, hs, w⟩ := w.pair h
  have a := w.dp m0
  have b := w.dp m1
  cases a
  cases b
  exact ⟨t, e, hs⟩
theorem Wd.ofInts (w : Wd K G0 H0 H xs ms ps) (ns : List Int) : Wd K G0 H0 H xs ms (.all (ns.map V.int) (ns.map PyData.int) :: ps) := w.add fun _ _ _ => dpaOfInts ns
theorem Wd.ofStrs (w : Wd K G0 H0 H xs ms ps) (ns : List Str) : Wd K G0 H0 H xs ms (.all (ns.map V.str) (ns.map PyData.str) :: ps) := w.add fun _ _ _ => dpaOfStrs ns
theorem Wd.ints {ns : List Int} (w : Wd K G0 H0 H xs ms ps) (h : .all vs (ns.map PyData.int) ∈ ps) : vs = ns.map V.int := dpaInts (w.all h)
theorem Wd.strs {ns : List Str} (w : Wd K G0 H0 H xs ms ps) (h : .all vs (ns.map PyData.str) ∈ ps) : vs = ns.map V.str := dpaStrs (w.all h)
theorem Wd.cons {e : PyData} {u : V} (w : Wd K G0 H0 H xs ms ps) (h1 : Pf.one u e ∈ ps) (h2 : .all vs ds ∈ ps) : Wd K G0 H0 H xs ms (.all (u :: vs) (e :: ds) :: ps) := w.add fun G _ f => by
  have q : DpAll K G [u] [e] := f _ h1
  cases q with
  | cons q _ => exact .cons q (f _ h2)
theorem Wd.snoc {e : PyData} {u : V} (w : Wd K G0 H0 H xs ms ps) (h2 : .all vs ds ∈ ps) (h1 : Pf.one u e ∈ ps) : Wd K G0 H0 H xs ms (.all (vs ++ [u]) (ds ++ [e]) :: ps) := w.add fun G _ f => dpaApp (f _ h2) (f _ h1)
theorem Wd.app {us : List V} {es : List PyData} (w : Wd K G0 H0 H xs ms ps) (h1 : .all us es ∈ ps) (h2 : .all vs ds ∈ ps) : Wd K G0 H0 H xs ms (.all (us ++ vs) (es ++ ds) :: ps) := w.add fun G _ f => dpaApp (f _ h1) (f _ h2)
theorem Wd.nil (w : Wd K G0 H0 H xs ms ps) : Wd K G0 H0 H xs ms (.all [] [] :: ps) := w.add fun G _ f => .nil
theorem Wd.int (w : Wd K G0 H0 H xs ms ps) (i : Int) : Wd K G0 H0 H xs ms (.one (.int i) (.int i) :: ps) := w.add fun G _ f => .cons (.int i) .nil
theorem Wd.str (w : Wd K G0 H0 H xs ms ps) (i : Str) : Wd K G0 H0 H xs ms (.one (.str i) (.str i) :: ps) := w.add fun G _ f => .cons (.str i) .nil
end
/-! ### promises -/
/-- α: what the caller chooses; β: what the def hands back. see: objects that are looked at; ext, ext2: objects that may be changed, ahead and behind; news: new objects that the caller may change -/
structure Pro (α β : Type) where
  args : α → List V
  need : α → List Pf := fun _ => []
  see : α → XL := fun _ => []
  ext : α → XL := fun _ => []
  pre : α → Prop := fun _ => True
  val : α → β → V
  gives : α → β → List Pf := fun _ _ => []
  news : α → β → ML := fun _ _ => []
  ext2 : α → β → XL := fun x _ => ext x
  post : α → β → Prop := fun _ _ => True
abbrev Stand (H : Hp) (l : XL) : Prop := ∀ p ∈ l, ∃ o, H p.1 = some o ∧ p.2 o
theorem stand0 {H : Hp} : Stand H [] := fun _ h => (nomatch h)
theorem stand1 {H : Hp} {a : Addr} {o : HO} {P : HO → Prop} (h : H a = some o) (p : P o) : Stand H [(a, P)] := fun q hq => by
  cases hq with
  | head => exact ⟨o, h, p⟩
  | tail _ z => cases z
theorem stand2 {H : Hp} {a b : Addr} {o u : HO} {P R : HO → Prop} (h : H a = some o) (p : P o) (h2 : H b = some u) (p2 : R u) : Stand H [(a, P), (b, R)] := fun q hq => by
  cases hq with
  | head => exact ⟨o, h, p⟩
  | tail _ z => exact stand1 h2 p2 q z
@[irreducible] def Pro.sp {α β : Type} (r : Pro α β) (K : PySem.W.Frag) : Sp := fun vs H Q _ => ∃ (x : α) (G : Hp), vs = r.args x ∧ r.pre x ∧ Same G H ∧ (∀ p ∈ r.need x, p.ok K G) ∧ Stand H (r.see x) ∧ Stand H (r.ext x) ∧ (∀ p ∈ r.ext x, G p.1 = none) ∧ ((r.ext x).map Prod.fst).Nodup ∧
  ∀ (G' H' : Hp) (y : β), Same G G' → Same G' H' → (∀ a o, H a = some o → G a = none → G' a = none) → (∀ b o, H b = some o → b ∉ (r.ext x).map Prod.fst → H' b = some o) → (r.ext2 x y).map Prod.fst = (r.ext x).map Prod.fst → Stand H' (r.ext2 x y) →
    (∀ p ∈ r.gives x y, p.ok K G') → (∀ p ∈ r.news x y, H' p.1 = some p.2 ∧ G' p.1 = none ∧ H p.1 = none) → ((r.news x y).map Prod.fst).Nodup → r.post x y → Q (r.val x y) H'
section
variable {α β : Type} {r : Pro α β} {K : PySem.W.Frag} {G0 H0 H : Hp} {xs : XL} {ms : ML} {ps : List Pf} {Q : VK} {E : XK}
theorem Pro.len {vs : List V} (h : r.sp K vs H Q E) : ∃ x, vs = r.args x := by
  unfold Pro.sp at h
  obtain ⟨x, G, e, _⟩ := h
  exact ⟨x, e⟩
theorem news_nd {l m : ML} (h1 : (m.map Prod.fst).Nodup) (h2 : (l.map Prod.fst).Nodup) (h : ∀ p ∈ l, ∀ q ∈ m, p.1 = q.1 → False) : ((l ++ m).map Prod.fst).Nodup := by
  rw [List.map_append]
  refine List.nodup_append.mpr ⟨h2, h1, fun a ha b hb e => ?_⟩
  obtain ⟨p, hp, rfl⟩ := List.mem_map.mp ha
  obtain ⟨q, hq, rfl⟩ := List.mem_map.mp hb
  exact h p hp q hq e
/-- a def's body: at its start, at its end -/
theorem Pro.use {vs : List V} (h : r.sp K vs H Q E) : ∃ (x : α) (G : Hp), vs = r.args x ∧ r.pre x ∧ Stand H (r.see x) ∧ Wd K G H H (r.ext x) [] (r.need x) ∧
    ∀ (H' : Hp) (ms' : ML) (ps' : List Pf) (y : β), Wd K G H H' (r.ext2 x y) (r.news x y ++ ms') ps' → (∀ p ∈ r.gives x y, p ∈ ps') → r.post x y → (r.ext2 x y).map Prod.fst = (r.ext x).map Prod.fst → Q (r.val x y) H' := by
  unfold Pro.sp at h
  obtain ⟨x, G, e, hp, s, f, hs, hx, hg, hn, k⟩ := h
  refine ⟨x, G, e, hp, hs, Wd.enter s f hx hg hn, fun H' ms' ps' y w hgi po he => ?_⟩
  obtain ⟨G', w⟩ := w
  have hm : ∀ p ∈ r.news x y, p ∈ r.news x y ++ ms' := fun p hp => List.mem_append_left _ hp
  refine k G' H' y w.anc w.sub w.out (fun b o e1 e2 => w.frm b o e1 (by rw [he]; exact e2)) he w.ext (fun p hp => w.per p (hgi p hp)) (fun p hp => ⟨w.mon p (hm p hp), w.mug p (hm p hp), w.own p (hm p hp)⟩) ?_ po
  have q := w.nd
  rw [List.map_append] at q
  exact (List.nodup_append.mp q).1
/-- a call that changes nothing that stood -/
theorem Pro.call0 (x : α) (w : Wd K G0 H0 H xs ms ps) (hx : r.ext x = []) (hp : r.pre x) (hn : ∀ p ∈ r.need x, p ∈ ps)
    (k : ∀ (H' : Hp) (y : β), Wd K G0 H0 H' xs (r.news x y ++ ms) (r.gives x y ++ ps) → r.post x y → (∀ b o, H b = some o → H' b = some o) → Q (r.val x y) H') (hs : Stand H (r.see x) := by exact stand0) : r.sp K (r.args x) H Q E := by
  unfold Pro.sp
  obtain ⟨G, w⟩ := w
  have no : ∀ {A : Prop} {p}, p ∈ r.ext x → A := fun h => by
    rw [hx] at h
    cases h
  refine ⟨x, G, rfl, hp, w.sub, fun p h => w.per p (hn p h), hs, fun p h => no h, fun p h => no h, by rw [hx]; exact List.nodup_nil, fun G' H' y s1 s2 ho hf _ _ hg hw hwn po => ?_⟩
  rw [hx] at hf
  have hf' : ∀ b o, H b = some o → H' b = some o := fun b o e => hf b o e (by simp)
  have h0 : ∀ p ∈ r.news x y, H0 p.1 = none := fun p hp => Wd.fresh0 ⟨G, w⟩ (hw p hp).2.2
  refine k H' y ⟨G', ?_⟩ po hf'
  refine ⟨s2, w.anc.trans s1, fun a o e1 e2 => ?_, fun b o e hb => hf' b o (w.frm b o e hb), fun p hp => ?_, fun p hp => ?_, fun p hp => (List.mem_append.mp hp).elim (fun z => (hw p z).1) fun hp => hf' _ _ (w.mon p hp), fun p hp => (List.mem_append.mp hp).elim (fun z => (hw p z).2.1) fun hp => ho _ _ (w.mon p hp) (w.mug p hp),
    fun p hp => (List.mem_append.mp hp).elim (h0 p) (w.own p), fun p hp q hq => (List.mem_append.mp hq).elim (fun z e => ?_) (w.apart p hp q), w.ndx, news_nd w.nd hwn fun p hp q hq e => ?_, fun p hp => ?_⟩
  · by_cases hm : a ∈ xs.map Prod.fst
    · obtain ⟨q, hq, rfl⟩ := List.mem_map.mp hm
      obtain ⟨u, hu, _⟩ := w.ext q hq
      exact ho _ _ hu (w.exg q hq)
    · exact ho a o (w.frm a o e1 hm) (w.out a o e1 e2)
  · obtain ⟨u, hu, hP⟩ := w.ext p hp
    exact ⟨u, hf' _ _ hu, hP⟩
  · obtain ⟨u, hu, hP⟩ := w.ext p hp
    exact ho _ _ hu (w.exg p hp)
  · obtain ⟨u, hu, hP⟩ := w.ext p hp
    rw [e, (hw q z).2.2] at hu
    cases hu
  · have hu := w.mon q hq
    rw [← e, (hw p hp).2.2] at hu
    cases hu
  · rcases List.mem_append.mp hp with h | h
    · exact hg p h
    · exact Pf.mono s1 (w.per p h)
/-- a call that may change just the caller's own caller's objects, all of them -/
theorem Pro.callX (x : α) (w : Wd K G0 H0 H xs ms ps) (hx : r.ext x = xs) (hp : r.pre x) (hn : ∀ p ∈ r.need x, p ∈ ps)
    (k : ∀ (H' : Hp) (y : β), Wd K G0 H0 H' (r.ext2 x y) (r.news x y ++ ms) (r.gives x y ++ ps) → r.post x y → Q (r.val x y) H') (hs : Stand H (r.see x) := by exact stand0) : r.sp K (r.args x) H Q E := by
  unfold Pro.sp
  obtain ⟨G, w⟩ := w
  refine ⟨x, G, rfl, hp, w.sub, fun p h => w.per p (hn p h), hs, by rw [hx]; exact w.ext, by rw [hx]; exact w.exg, by rw [hx]; exact w.ndx, fun G' H' y s1 s2 ho hf hee he hg hw hwn po => k H' y ⟨G', ?_⟩ po⟩
  rw [hx] at hf hee
  have h0 : ∀ p ∈ r.news x y, H0 p.1 = none := fun p hp => Wd.fresh0 ⟨G, w⟩ (hw p hp).2.2
  have nx : ∀ q ∈ ms, q.1 ∉ xs.map Prod.fst := fun q hq hm => by
    obtain ⟨r, hr, e⟩ := List.mem_map.mp hm
    exact w.apart r hr q hq e
  have bk : ∀ p ∈ r.ext2 x y, ∃ q ∈ xs, q.1 = p.1 := fun p hp => by
    have z : p.1 ∈ (r.ext2 x y).map Prod.fst := List.mem_map.mpr ⟨p, hp, rfl⟩
    rw [hee] at z
    exact List.mem_map.mp z
  refine ⟨s2, w.anc.trans s1, fun a o e1 e2 => ?_, fun b o e hb => ?_, he, fun p hp => ?_, fun p hp => (List.mem_append.mp hp).elim (fun z => (hw p z).1) fun hp => hf _ _ (w.mon p hp) (nx p hp), fun p hp => (List.mem_append.mp hp).elim (fun z => (hw p z).2.1) fun hp => ho _ _ (w.mon p hp) (w.mug p hp),
    fun p hp => (List.mem_append.mp hp).elim (h0 p) (w.own p), fun p hp q hq => ?_, by rw [hee]; exact w.ndx, news_nd w.nd hwn fun p hp q hq e => ?_, fun p hp => ?_⟩
  · by_cases hm : a ∈ xs.map Prod.fst
    · obtain ⟨q, hq, rfl⟩ := List.mem_map.mp hm
      obtain ⟨u, hu, _⟩ := w.ext q hq
      exact ho _ _ hu (w.exg q hq)
    · exact ho a o (w.frm a o e1 hm) (w.out a o e1 e2)
  · rw [hee] at hb
    exact hf b o (w.frm b o e hb) hb
  · obtain ⟨q, hq, e⟩ := bk p hp
    obtain ⟨u, hu, hP⟩ := w.ext q hq
    rw [← e]
    exact ho _ _ hu (w.exg q hq)
  · obtain ⟨t, ht, e⟩ := bk p hp
    rw [← e]
    rcases List.mem_append.mp hq with z | z
    · intro e2
      obtain ⟨u, hu, hP⟩ := w.ext t ht
      rw [e2, (hw q z).2.2] at hu
      cases hu
    · exact w.apart t ht q z
  · have hu := w.mon q hq
    rw [← e, (hw p hp).2.2] at hu
    cases hu
  · rcases List.mem_append.mp hp with h | h
    · exact hg p h
    · exact Pf.mono s1 (w.per p h)
/-- a call that may change one own object -/
theorem Pro.callM {a : Addr} {o : HO} {P : HO → Prop} (x : α) (w : Wd K G0 H0 H xs ((a, o) :: ms) ps) (hx : r.ext x = [(a, P)]) (ho : P o) (hp : r.pre x) (hn : ∀ p ∈ r.need x, p ∈ ps)
    (k : ∀ (H' : Hp) (y : β) (o' : HO), Stand H' (r.ext2 x y) → H' a = some o' → Wd K G0 H0 H' xs ((a, o') :: (r.news x y ++ ms)) (r.gives x y ++ ps) → r.post x y → (∀ b u, H b = some u → b ≠ a → H' b = some u) → Q (r.val x y) H') (hs : Stand H (r.see x) := by exact stand0) : r.sp K (r.args x) H Q E := by
  unfold Pro.sp
  obtain ⟨G, w⟩ := w
  have ma : (a, o) ∈ (a, o) :: ms := List.mem_cons_self ..
  have n1 : a ∉ ms.map Prod.fst ∧ (ms.map Prod.fst).Nodup := by
    have q := w.nd
    rw [List.map_cons, List.nodup_cons] at q
    exact q
  have nm : ∀ q ∈ ms, q.1 ≠ a := fun q hq e => n1.1 (List.mem_map.mpr ⟨q, hq, e⟩)
  have nx : ∀ q ∈ xs, q.1 ≠ a := fun q hq => w.apart q hq _ ma
  refine ⟨x, G, rfl, hp, w.sub, fun p h => w.per p (hn p h), hs, ?_, ?_, ?_, fun G' H' y s1 s2 hou hf hee he hg hw hwn po => ?_⟩
  · rw [hx]
    intro p hp
    rcases List.mem_cons.mp hp with e | e
    · rw [e]
      exact ⟨o, w.mon _ ma, ho⟩
    · cases e
  · rw [hx]
    intro p hp
    rcases List.mem_cons.mp hp with e | e
    · rw [e]
      exact w.mug _ ma
    · cases e
  · rw [hx]
    simp
  · rw [hx] at hf hee
    have hf' : ∀ b u, H b = some u → b ≠ a → H' b = some u := fun b u e n => hf b u e (by simpa using n)
    have hz : (r.ext2 x y).map Prod.fst = [a] := hee
    obtain ⟨pz, hpz, epz⟩ : ∃ p ∈ r.ext2 x y, p.1 = a := by
      have z : a ∈ (r.ext2 x y).map Prod.fst := by
        rw [hz]
        exact List.mem_cons_self ..
      exact List.mem_map.mp z
    obtain ⟨o', ho', _⟩ := he pz hpz
    rw [epz] at ho'
    have h0 : ∀ p ∈ r.news x y, H0 p.1 = none := fun p hp => Wd.fresh0 ⟨G, w⟩ (hw p hp).2.2
    refine k H' y o' he ho' ⟨G', ?_⟩ po hf'
    refine ⟨s2, w.anc.trans s1, fun b u e1 e2 => ?_, fun b u e hb => ?_, fun p hp => ?_, fun p hp => ?_, fun p hp => ?_, fun p hp => ?_, fun p hp => ?_, fun p hp q hq => ?_, w.ndx, ?_, fun p hp => ?_⟩
    · by_cases hm : b ∈ xs.map Prod.fst
      · obtain ⟨q, hq, rfl⟩ := List.mem_map.mp hm
        obtain ⟨u, hu, _⟩ := w.ext q hq
        exact hou _ _ hu (w.exg q hq)
      · exact hou b u (w.frm b u e1 hm) (w.out b u e1 e2)
    · refine hf' b u (w.frm b u e hb) fun z => ?_
      rw [z, w.own _ ma] at e
      cases e
    · obtain ⟨u, hu, hP⟩ := w.ext p hp
      exact ⟨u, hf' _ _ hu (nx p hp), hP⟩
    · obtain ⟨u, hu, hP⟩ := w.ext p hp
      exact hou _ _ hu (w.exg p hp)
    · rcases List.mem_cons.mp hp with e | hp
      · subst e
        exact ho'
      · rcases List.mem_append.mp hp with z | z
        · exact (hw p z).1
        · exact hf' _ _ (w.mon p (List.mem_cons_of_mem _ z)) (nm p z)
    · rcases List.mem_cons.mp hp with e | hp
      · subst e
        exact hou _ _ (w.mon (a, o) ma) (w.mug (a, o) ma)
      · rcases List.mem_append.mp hp with z | z
        · exact (hw p z).2.1
        · exact hou _ _ (w.mon p (List.mem_cons_of_mem _ z)) (w.mug p (List.mem_cons_of_mem _ z))
    · rcases List.mem_cons.mp hp with e | hp
      · subst e
        exact w.own (a, o) ma
      · rcases List.mem_append.mp hp with z | z
        · exact h0 p z
        · exact w.own p (List.mem_cons_of_mem _ z)
    · rcases List.mem_cons.mp hq with e | hq
      · subst e
        exact nx p hp
      · rcases List.mem_append.mp hq with z | z
        · intro e2
          obtain ⟨u, hu, hP⟩ := w.ext p hp
          rw [e2, (hw q z).2.2] at hu
          cases hu
        · exact w.apart p hp q (List.mem_cons_of_mem _ z)
    · rw [List.map_cons, List.nodup_cons]
      refine ⟨fun hm => ?_, news_nd n1.2 hwn fun p hp q hq e => ?_⟩
      · obtain ⟨q, hq, e⟩ := List.mem_map.mp hm
        rcases List.mem_append.mp hq with z | z
        · have hu := w.mon _ ma
          rw [← e, (hw q z).2.2] at hu
          cases hu
        · exact nm q z e
      · have hu := w.mon q (List.mem_cons_of_mem _ hq)
        rw [← e, (hw p hp).2.2] at hu
        cases hu
    · rcases List.mem_append.mp hp with h | h
      · exact hg p h
      · exact Pf.mono s1 (w.per p h)
end
/-! ### the draws' state -/
structure Sg where
  s : Addr
  scr : Addr
  ns : List Int
def IsSt (scr : Addr) (o : HO) : Prop := ∃ a b c : Int, o = .lst [.ref scr, .int a, .int b, .int c] ∧ 0 ≤ a
def Sg.ext (g : Sg) : XL := [(g.s, IsSt g.scr)]
def Sg.need (g : Sg) : List Pf := [.one (.ref g.scr) (.list (g.ns.map PyData.int))]
/-- from here on the own object s is one of the caller's; and back -/
theorem Wd.rebase {K : PySem.W.Frag} {G0 H0 H : Hp} {s : Addr} {o : HO} {ps : List Pf} {P : HO → Prop} (w : Wd K G0 H0 H [] [(s, o)] ps) (h : P o) :
    ∃ G, Wd K G H H [(s, P)] [] ps ∧ ∀ (H' : Hp) (ms' : ML) (ps' : List Pf), Wd K G H H' [(s, P)] ms' ps' → Wd K G0 H0 H' [] [] ps' := by
  obtain ⟨G, w⟩ := w
  have ms : (s, o) ∈ [(s, o)] := List.mem_cons_self ..
  have q : ∀ {A : (Addr × (HO → Prop)) → Prop}, A (s, P) → ∀ p ∈ [(s, P)], A p := fun {A} h p hp => by
    rcases List.mem_cons.mp hp with e | e
    · rw [e]
      exact h
    · cases e
  refine ⟨G, Wd.enter w.sub w.per (q ⟨o, w.mon _ ms, h⟩) (q (w.mug _ ms)) (by simp), fun H' ms' ps' v => ?_⟩
  obtain ⟨G', v⟩ := v
  have h0 := w.own _ ms
  refine ⟨G', v.sub, w.anc.trans v.anc, fun a u e1 e2 => ?_, fun b u e hb => ?_, fun p hp => (nomatch hp), fun p hp => (nomatch hp), fun p hp => (nomatch hp), fun p hp => (nomatch hp), fun p hp => (nomatch hp), fun p hp => (nomatch hp), List.nodup_nil, List.nodup_nil, v.per⟩
  · exact v.out a u (w.frm a u e1 (by simp)) (w.out a u e1 e2)
  · refine v.frm b u (w.frm b u e (by simp)) fun hm => ?_
    have e3 : b = s := by simpa using hm
    rw [e3, h0] at e
    cases e
/-! ### types of data -/
def tyN : PyData → String
  | .none => "NoneType"
  | .bool _ => "bool"
  | .int _ => "int"
  | .str _ => "str"
  | .list _ => "list"
  | .tuple _ => "tuple"
  | .dict _ => "dict"
theorem tyx {K : PySem.W.Frag} {H : Hp} {v : V} {d : PyData} (h : Dp K H v d) : TyX K H v (.type (tyN d)) := by
  cases h with
  | non => exact .base .non
  | bl b => exact .base (.bl b)
  | int i => exact .base (.int i)
  | str x => exact .base (.str x)
  | lst hs _ =>
    rcases hs with (h | ⟨o, h⟩) | ⟨o, its, n, hk, hc, _⟩
    · exact .base (.lst h)
    · exact .base (.frz h)
    · exact .kList hk hc
  | tup hs _ =>
    rcases hs with (h | ⟨o, h⟩) | ⟨o, its, n, hk, hc, _⟩
    · exact .base (.tup h)
    · exact .fTuple h
    · exact .kTuple hk hc
theorem iteP {c A B : Prop} [Decidable c] (h : c) (a : A) : if c then A else B := by
  rw [if_pos h]
  exact a
theorem iteN {c A B : Prop} [Decidable c] (h : ¬ c) (b : B) : if c then A else B := by
  rw [if_neg h]
  exact b
theorem yesL {σ : L2.St} {H : Hp} {A B : Hp → Prop} (h : A H) : tYes σ H (fun b H3 => if b = true then A H3 else B H3) := by
  show (if true = true then A H else B H)
  exact iteP rfl h
theorem nnInt {i : Int} : ¬ (decide (V.int i = V.non) = true) := by simp
theorem nnStr {i : Str} : ¬ (decide (V.str i = V.non) = true) := by simp
theorem nnRef {i : Addr} : ¬ (decide (V.ref i = V.non) = true) := by simp
theorem ff : ¬ (false = true) := Bool.false_ne_true
/-- data without bools and dicts, at most so deep -/
def isD : Nat → PyData → Bool
  | _, .none => true
  | _, .int _ => true
  | _, .str _ => true
  | n + 1, .list ds => decide (ds.length < 100000) && ds.all (isD n)
  | n + 1, .tuple ds => decide (ds.length < 100000) && ds.all (isD n)
  | _, _ => false
theorem atI_0 {α : Type} {xs : List α} {j : Nat} {v : α} (h : xs[j]? = some v) : atI xs ((0 : Int) + (j : Int)) = some v := by
  rw [Int.zero_add]
  exact atI_nat h
theorem atI_end {α : Type} {xs : List α} {n : Nat} {v : α} (h : xs[n - 1]? = some v) (e : xs.length = n) : atI xs (-1) = some v := by
  have hl := (List.getElem?_eq_some_iff.mp h).1
  unfold atI ixN
  rw [if_neg (by decide), if_pos (by omega)]
  show xs[((-1 : Int) + xs.length).toNat]? = _
  rw [← h, show ((-1 : Int) + xs.length).toNat = n - 1 by omega]
theorem fnOk0 {P : Program} {w : World} {K : PySem.W.Frag} {mg : Str → Option Value} {base : Heap} {CX : CXT} {f : Addr} {fd : FuncData} {ps : List Str} : FnOk P w K mg base CX 0 f fd ps (fun _ _ _ _ => False) :=
  ⟨fun _ _ _ _ h => h.elim, fun _ _ _ _ _ _ _ _ _ _ _ _ _ h => h.elim⟩
theorem hu64_of {A : Around} {k : Nat} (hr : Room k A) : A.units + 64 < cLine := hr.units
end KX

/-! sets of ints and texts that can be walked; sorted(set(..)) -/
namespace KX
open PySem PySem.Spec PyProof.Rows L2
/-- the key of a set's entry -/
def kAt (e : Int × Value) : Key := match e.2 with
  | .int i _ => .inl i
  | .str x _ => .inr x
  | _ => .inl 0
def FineE (w : World) (e : Int × Value) : Prop := keyIs (kAt e) e.2 = true ∧ e.1 = keyH w (kAt e)
theorem kAt_is {z : Int} {v : Value} {k : Key} (h : keyIs k v = true) : kAt (z, v) = k := by
  rcases keyIs_shape h with ⟨i, t, rfl, rfl⟩ | ⟨x, t, rfl, rfl⟩ <;> rfl
theorem kScan {k : Key} {v : Value} (h : keyIs k v = true) : v.scannable = true := by
  rcases keyIs_shape h with ⟨i, t, rfl, rfl⟩ | ⟨x, t, rfl, rfl⟩ <;> rfl
/-- the set at a: the keys with S, n of them -/
def SetQ (w : World) (h : Heap) (a : Addr) (S : Key → Bool) (n : Nat) : Prop :=
  ∃ (o : Obj) (es : Array (Int × Value)) (ep : Nat) (t : SetTable), h.get? a = some o ∧ o.ExactSet ∧ o.data = .set es ep t ∧ (∀ e ∈ es.toList, FineE w e) ∧ (es.toList.map kAt).Nodup ∧ (∀ k, S k = true ↔ k ∈ es.toList.map kAt) ∧
    (es.size < scanBound ∧ es.size = n) ∧ t.fits es.size = true ∧ Ris t.place.toList ∧ (w.params.followText "set-order" = true ∨ t.led = true)
section
variable {P : Program} {w : World} {A : Around} {E : Value → Shared → Prop} {s : Shared} {h h' : Heap} {a : Addr} {S : Key → Bool} {n : Nat}
theorem SetQ.keep (R : SetQ w h a S n) (k : ∀ o, h.get? a = some o → h'.get? a = some o) : SetQ w h' a S n := by
  obtain ⟨o, es, ep, t, e, r⟩ := R
  exact ⟨o, es, ep, t, k o e, r⟩
theorem SetQ.same {S' : Key → Bool} (R : SetQ w h a S n) (e : ∀ k, S' k = S k) : SetQ w h a S' n := by
  rw [show S' = S from funext e]
  exact R
theorem fine_elems {l : List (Int × Value)} (g : ∀ e ∈ l, FineE w e) : ElemsOf (mixKind P w) l := fun e he =>
  ⟨⟨kAt e, (g e he).1, (g e he).2⟩, kScan (g e he).1⟩
theorem fine_iff {e : Int × Value} (g : FineE w e) (k : Key) : keyIs k e.2 = true ↔ kAt e = k := by
  constructor
  · exact fun q => kAt_is (z := e.1) q
  · intro q
    rw [← q]
    exact g.1
theorem fine_mem {l : List (Int × Value)} (g : ∀ e ∈ l, FineE w e) (k : Key) : k ∈ l.map kAt ↔ ∃ e ∈ l, keyIs k e.2 = true := by
  rw [List.mem_map]
  exact ⟨fun ⟨e, he, q⟩ => ⟨e, he, (fine_iff (g e he) k).2 q⟩, fun ⟨e, he, q⟩ => ⟨e, he, (fine_iff (g e he) k).1 q⟩⟩
theorem put_tail {g : Bool → Sem Unit} (hg : ∀ (b : Bool) (z : Shared) (Q' : Unit → Shared → Prop), Q' () z → wpAny (model P w) A (g b) Q' E z)
    {o : Obj} {es fs : Array (Int × Value)} {ep : Nat} {t u : SetTable} {T : Key → Bool} {dm : Bool} {R : Option Bool → Shared → Prop}
    (ho : s.heap.get? a = some o) (hx : o.ExactSet) (hd : o.data = .set es ep t) (gf : ∀ e ∈ fs.toList, FineE w e) (nf : (fs.toList.map kAt).Nodup) (mf : ∀ k, T k = true ↔ k ∈ fs.toList.map kAt)
    (bf : fs.size < scanBound) (fu : u.fits fs.size = true) (ru : Ris u.place.toList) (lu : w.params.followText "set-order" = true ∨ u.led = true)
    (hR : ∀ z, Heap.SameBut a s.heap z → SetQ w z a T fs.size → R (some true) { s with heap := z }) :
    wpAny (model P w) A (do
        storeSet a fs u
        if (!dm && u.tooFull) = true then do
            g (relayAll u fs (SetTable.grown fs.size)).2.2
            storeSet a (relayAll u fs (SetTable.grown fs.size)).1 (relayAll u fs (SetTable.grown fs.size)).2.1
            pure (some true)
          else pure (some true)) R E s := by
  have o1 := store_at (es' := fs) (t' := u) ho hd
  have b1 := Heap.SameBut.update s.heap a (Obj.putSet fs u)
  refine wpAny_bind (wpAny_storeSet_of ho hd ?_ (fits_of_scanBound bf))
  split
  · have p1 := relayAll_perm u fs (SetTable.grown fs.size)
    have p2 := relayAll_fits u fs (SetTable.grown fs.size)
    have p3 := relayAll_ris u fs (SetTable.grown fs.size)
    have p4 := relayAll_led u fs (SetTable.grown fs.size)
    generalize relayAll u fs (SetTable.grown fs.size) = Z at p1 p2 p3 p4 ⊢
    obtain ⟨gs, v, gave⟩ := Z
    dsimp only at p1 p2 p3 p4 ⊢
    have sz : gs.size = fs.size := by
      have q := p1.length_eq
      rw [Array.length_toList, Array.length_toList] at q
      exact q
    refine wpAny_bind (hg _ _ _ (wpAny_bind (wpAny_storeSet_of o1 rfl ?_ (fits_of_scanBound (by rw [sz]; exact bf)))))
    refine wpAny_pure (hR _ (b1.trans (Heap.SameBut.update _ a _)) ?_)
    exact ⟨_, gs, _, v, store_at (es' := gs) (t' := v) o1 rfl, hx, rfl, fun e he => gf e (p1.mem_iff.mp he), (p1.map kAt).nodup_iff.mpr nf, fun k => (mf k).trans (p1.map kAt).mem_iff.symm,
      ⟨by rw [sz]; exact bf, sz⟩, p2, p3, lu.imp id fun q => by rw [p4]; exact q⟩
  · exact wpAny_pure (hR _ b1 ⟨_, fs, _, u, o1, hx, rfl, gf, nf, mf, ⟨bf, rfl⟩, fu, ru, lu⟩)
theorem put_hashed {k : Key} {v : Value} {Q : Bool → Shared → Prop} (R : SetQ w s.heap a S n) (hk : keyIs k v = true) (room : n + 1 < scanBound)
    (hQ : ∀ z, Heap.SameBut a s.heap z → SetQ w z a (fun j => S j || decide (j = k)) (if S k = true then n else n + 1) → Q (!S k) { s with heap := z }) :
    wpAny (model P w) A (setAddHashed a v (keyH w k)) Q E s := by
  obtain ⟨o, es, ep, t, ho, hx, hd, ge, ne, me, ⟨be, se⟩, fe, re, le⟩ := R
  have el : ElemsOf (mixKind P w) es.toList := fine_elems ge
  have sc := kScan hk
  unfold setAddHashed setAddHashedIn
  refine wpAny_holding (wpAny_bind (wpAny_setState_of ho hd fe ?_))
  dsimp only
  rw [byScan_of sc be el]
  simp only [↓reduceIte]
  unfold setAddByScan
  refine wpAny_bind (wpAny_bind (wpAny_rule (wpAny_bind (wpAny_setScan_of (knd := mixKind P w) (k := k) hk ho hd fe el ?_))))
  cases fi : List.findIdx? (fun e => (mixKind P w).is k e.2) es.toList with
  | some j =>
    dsimp only
    obtain ⟨hj, pj, _⟩ := List.findIdx?_eq_some_iff_getElem.mp fi
    have Sk : S k = true := (me k).2 ((fine_mem ge k).2 ⟨es.toList[j], List.getElem_mem hj, pj⟩)
    refine wpAny_pure (wpAny_pure ?_)
    have q := hQ s.heap (Heap.SameBut.refl a s.heap) ⟨o, es, ep, t, ho, hx, hd, ge, ne, fun i => by
      rw [Bool.or_eq_true, decide_eq_true_eq, ← me i]
      exact ⟨fun z => z.elim id fun e => by rw [e]; exact Sk, Or.inl⟩, ⟨be, by rw [if_pos Sk]; exact se⟩, fe, re, le⟩
    rw [Sk] at q
    exact q
  | none =>
    dsimp only
    have nk : k ∉ es.toList.map kAt := fun z => by
      obtain ⟨e, he, q⟩ := (fine_mem ge k).1 z
      have c : (mixKind P w).is k e.2 = false := by
        have c := List.findIdx?_eq_none_iff.mp fi e he
        simpa using c
      rw [show (mixKind P w).is k e.2 = true from q] at c
      cases c
    have Sk : S k = false := by
      cases q : S k with
      | false => rfl
      | true => exact absurd ((me k).1 q) nk
    have gw : ∀ (b : Bool) {z : Shared} {Q' : Unit → Shared → Prop}, Q' () z → wpAny (model P w) A (match b with | true => rule "set.scan.the-table-gave-way" | false => pure ()) Q' E z := fun b z Q' q => by
      cases b
      · exact wpAny_pure q
      · exact wpAny_rule q
    show wpAny (model P w) A _ _ E s
    have q1 := layNew_perm t es (keyH w k) v
    have q2 := layNew_fits t es (keyH w k) v
    have q3 := layNew_ris t es (keyH w k) v re
    have q4 := layNew_led t es (keyH w k) v
    generalize layNew t es (keyH w k) v = Z at q1 q2 q3 q4 ⊢
    obtain ⟨fs, u, wd, gave⟩ := Z
    dsimp only at q1 q2 q3 q4 ⊢
    rw [Array.toList_push] at q1
    have pc : fs.toList.Perm ((keyH w k, v) :: es.toList) := q1.trans (List.perm_append_singleton _ _)
    have pk : (fs.toList.map kAt).Perm (k :: es.toList.map kAt) := by
      have z := pc.map kAt
      rw [List.map_cons, kAt_is hk] at z
      exact z
    have gf : ∀ e ∈ fs.toList, FineE w e := fun e he => by
      rcases List.mem_cons.mp (pc.mem_iff.mp he) with z | z
      · rw [z]
        refine ⟨?_, ?_⟩
        · rw [kAt_is hk]
          exact hk
        · rw [kAt_is hk]
      · exact ge e z
    have nf : (fs.toList.map kAt).Nodup := pk.nodup_iff.mpr (List.nodup_cons.mpr ⟨nk, ne⟩)
    have mf : ∀ i, (S i || decide (i = k)) = true ↔ i ∈ fs.toList.map kAt := fun i => by
      rw [Bool.or_eq_true, decide_eq_true_eq, me i, pk.mem_iff, List.mem_cons]
      exact Or.comm
    have sf : fs.size = n + 1 := by
      have q := pc.length_eq
      rw [List.length_cons, Array.length_toList, Array.length_toList, se] at q
      exact q
    have bf : fs.size < scanBound := by
      rw [sf]
      exact room
    have lf : w.params.followText "set-order" = true ∨ u.led = true := le.imp id fun z => by
      rw [q4]
      exact z
    have fin : ∀ z, Heap.SameBut a s.heap z → SetQ w z a (fun j => S j || decide (j = k)) fs.size → Q true { s with heap := z } := fun z sb r => by
      have q := hQ z sb
      rw [Sk] at q
      rw [sf] at r
      exact q r
    refine wpAny_bind (gw _ ?_)
    split
    · refine wpAny_bind ?_
      rw [hashByValue_scannable 8 sc]
      refine wpAny_pure ?_
      refine put_tail ?_ ho hx hd gf nf mf bf ?_ ?_ ?_ ?_
      · intro b z Q' q
        cases b <;> first | exact wpAny_pure q | exact wpAny_rule q
      · first | (split <;> first | exact q2 | exact SetTable.fits_plain_off q2) | exact q2
      · first | (split <;> exact q3) | exact q3
      · first | (split <;> exact lf) | exact lf
      · intro z sb r
        dsimp only
        exact wpAny_pure (fin z sb r)
    · refine wpAny_bind (wpAny_pure ?_)
      simp only [↓reduceIte]
      refine put_tail ?_ ho hx hd gf nf mf bf q2 q3 lf ?_
      · intro b z Q' q
        cases b <;> first | exact wpAny_pure q | exact wpAny_rule q
      · intro z sb r
        dsimp only
        exact wpAny_pure (fin z sb r)
def memK (ks : List Key) (j : Key) : Bool := ks.any fun k => decide (j = k)
theorem memK_iff {ks : List Key} {j : Key} : memK ks j = true ↔ j ∈ ks := by
  unfold memK
  rw [List.any_eq_true]
  constructor
  · rintro ⟨k, hk, e⟩
    rw [of_decide_eq_true e]
    exact hk
  · exact fun q => ⟨j, q, decide_eq_true rfl⟩
/-- the loop of set(..) over anything that is walked -/
theorem upd_walk {I : Addr} {fp wr : List Addr} {G : Array GenState → Array GenState → Prop} {m : Nat} {Pv : Nat → Value → Prop} {St : Nat → Shared → Prop} {R : Result → Shared → Prop}
    (W : WalksS P w A.in1 I fp wr G m Pv St) (nf : a ∉ fp) (ks : List Key) (em : m = ks.length) (room : ks.length + 1 < scanBound) (hv : ∀ i v, Pv i v → ∃ k, ks[i]? = some k ∧ keyIs k v = true) :
    ∀ (d i : Nat) (s : Shared), m - i = d → i ≤ m → St i s → (∃ c, c ≤ i ∧ SetQ w s.heap a (fun j => memK (ks.take i) j) c) →
      (∀ z c, Moved (a :: wr) G s z → c ≤ m → SetQ w z.heap a (fun j => memK ks j) c → R (.ok (.ret .none)) z) →
      codeAny (model P w) A (.builtin "set.update.loop" ⟨[.ref a, .ref I], []⟩) R s := by
  have nw : a ∉ wr := fun q => nf (W.sub _ q)
  have tl : ∀ b ∈ wr, b ∈ a :: wr := fun b q => List.mem_cons_of_mem _ q
  intro d
  induction d with
  | zero =>
    intro i s ed hi st ⟨c, hc, hS⟩ fin
    obtain rfl : i = m := by omega
    refine codeAny_builtin F.entry_set_update_loop ?_
    rw [Around.under_plainId F.plain_set_update_loop _]
    show wpAny _ A.in1 (pyNext (.ref I) >>= _) _ _ s
    refine wpAny_bind (W.done s _ _ st fun z mv => ?_)
    show wpAny _ A.in1 (ret Value.none) _ _ z
    rw [show ks.take i = ks from List.take_of_length_le (by omega)] at hS
    exact wpAny_pure (fin z c (mv.mono tl) hc (hS.keep fun o e => mv.heap a o nw e))
  | succ d ih =>
    intro i s ed hi st ⟨c, hc, hS⟩ fin
    have lt : i < m := by omega
    refine codeAny_builtin F.entry_set_update_loop ?_
    rw [Around.under_plainId F.plain_set_update_loop _]
    show wpAny _ A.in1 (pyNext (.ref I) >>= _) _ _ s
    refine wpAny_bind (W.item i s _ _ lt st fun v z hP st1 mv => ?_)
    obtain ⟨k, hk, ik⟩ := hv i v hP
    have hS1 : SetQ w z.heap a (fun j => memK (ks.take i) j) c := hS.keep fun o e => mv.heap a o nw e
    show wpAny _ A.in1 (holding [v] (setAdd a v) >>= _) _ _ z
    refine wpAny_bind (wpAny_holding ?_)
    unfold setAdd
    refine wpAny_holding (wpAny_bind ((mixKind P w).pyHash (k := k) ik ?_))
    refine put_hashed (s := { z with toks := z.toks + 1 }) hS1 ik (by omega) fun y sb hS2 => ?_
    have hS3 : SetQ w y a (fun j => memK (ks.take (i + 1)) j) (if memK (ks.take i) k = true then c else c + 1) := hS2.same fun j => by
      rw [List.take_add_one, hk]
      unfold memK
      rw [List.any_append]
      simp
    have hc3 : (if memK (ks.take i) k = true then c else c + 1) ≤ i + 1 := by
      split <;> omega
    have ne : ∀ b ∈ fp, b ≠ a := fun b hb e => nf (by rw [← e]; exact hb)
    refine wpAny_pure ⟨plainId_quiet F.plain_set_update_loop _, ih (i + 1) _ (by omega) lt (W.frame _ z _ _ st1 (Nat.le_succ _) fun b hb o e => by rw [sb.2 b (ne b hb)]; exact e) ⟨_, hc3, hS3⟩ fun x c2 mv2 hc2 hx => ?_⟩
    refine fin x c2 (Moved.trans W.gtrans ((mv.mono tl).then_heap (Nat.le_succ _) fun b o hb e => ?_) mv2) hc2 hx
    have hba : b ≠ a := fun q => hb (by rw [q]; exact List.mem_cons_self)
    rw [sb.2 b hba]
    exact e
abbrev eSet (w : World) : Obj := { cls := .type "set", dict := none, data := .set #[] 0 (.fresh 0 0 (!w.params.followText "set-order")) }
theorem setQ_empty {ks : List Key} (e : h.get? a = some (eSet w)) : SetQ w h a (fun j => memK (ks.take 0) j) 0 := by
  refine ⟨_, #[], 0, _, e, ⟨rfl, rfl, rfl⟩, rfl, fun e he => by simp at he, by simp, fun k => by simp [memK], ⟨by decide, rfl⟩, by rfl, List.Pairwise.nil, ?_⟩
  show _ ∨ (!w.params.followText "set-order") = true
  cases w.params.followText "set-order"
  · exact .inr rfl
  · exact .inl rfl
theorem pairedAt {α β : Type} {F : α → β → Prop} : ∀ {l : List α} {m : List β}, Paired F l m → ∀ (i : Nat) (v : β), m[i]? = some v → ∃ k, l[i]? = some k ∧ F k v
  | _, _, .nil, i, v, e => by simp at e
  | _, _, .cons h _, 0, v, e => by
    simp at e
    subst e
    exact ⟨_, rfl, h⟩
  | _, _, .cons _ t, i + 1, v, e => by
    obtain ⟨k, e1, e2⟩ := pairedAt t i v (by simpa using e)
    exact ⟨k, by simpa using e1, e2⟩
theorem call_set_tuple {l : Addr} {items : Array Value} (ks : List Key) {Q : Value → Shared → Prop} (hh : A.handled = none) (hl : s.heap.IsTuple l items) (hk : Paired (fun k v => keyIs k v = true) ks items.toList) (room : ks.length + 1 < scanBound)
    (fin : ∀ (z : Heap) (tk c : Nat), SetQ w z s.heap.objs.size (memK ks) c → c ≤ ks.length → (∀ b o, s.heap.get? b = some o → z.get? b = some o) → Q (.ref s.heap.objs.size) { s with heap := z, toks := tk }) :
    wpAny (model P w) A (call (.type "set") [.ref l]) Q E s := by
  have sz : items.size = ks.length := by
    have q := Paired.length hk
    rw [Array.length_toList] at q
    exact q.symm
  obtain ⟨c0, tl0, hmro⟩ := F.called_set.mro
  have m1 := F.called_set.made; have m2 := F.called_set.sub
  refine wpAny_call (codeAny_of_tree ?_)
  show wpAny _ _ (callAny (.type "set") _) _ _ _
  refine wpAny_pure ⟨Code.quiet_builtin _ (by decide +kernel), codeAny_builtin F.entry_type_call ?_⟩
  rw [Around.under_plain (weight_type_call_type "set" [.ref l] []) rfl]
  have m3 := F.called_set.notType; have m4 := F.called_set.canCreate; have m5 := F.typeCall_set_1 (.ref l)
  repeat any_goals first | assumption | wp_step
  refine codeAny_mono (code_set_led1 (.ref l) (E := E) (Q₁ := fun ob z => ob = .ref s.heap.objs.size ∧ z = { s with heap := s.heap.push (eSet w) }) ⟨rfl, rfl⟩) fun r z hr => ?_
  cases r with
  | error e => exact hr
  | ok fl =>
    cases fl with
    | next => exact hr.elim
    | brk => exact hr.elim
    | cont => exact hr.elim
    | ret ob =>
      obtain ⟨rfl, rfl⟩ := hr
      have hS : (s.heap.push (eSet w)).get? s.heap.objs.size = some (eSet w) := Heap.get?_push_size _ rfl
      have hT : Shared.TypeIs { s with heap := s.heap.push (eSet w) } (.ref s.heap.objs.size) "set" := ⟨_, hS, rfl⟩
      have m6 := F.called_set.init.lookup; have m7 := F.called_set.init.bind (.ref s.heap.objs.size)
      repeat any_goals first | assumption | wp_step
      refine codeAny_mono (codeAny_call_builtin (R := wants (fun r z => r = .none ∧ ∃ y tk c, z = { s with heap := y, toks := tk } ∧ SetQ w y s.heap.objs.size (memK ks) c ∧ c ≤ ks.length ∧ (∀ b o, s.heap.get? b = some o → y.get? b = some o)) E) F.called_set.init.plain F.entry_set_init (check_set_init_1 hT ?_)) fun r2 z2 hr2 => ?_
      · have hl1 : (s.heap.push (eSet w)).IsTuple l items := hl.push _
        obtain ⟨ol, hol, hcl, hrest⟩ := id hl
        have hlS : l < s.heap.objs.size := Heap.lt_size hol
        have hol' : (s.heap.push (eSet w)).get? l = some ol := Heap.get?_push_of_some _ hol
        have hTl : Shared.TypeIs { s with heap := s.heap.push (eSet w) } (.ref l) "tuple" := ⟨_, hol', hcl⟩
        have n1 := F.sub_tuple_set; have n2 := F.sub_tuple_frozenset; have n3 : (Value.type "tuple" == Value.type "dict") = false := by decide
        unfold Builtin.«set.__init__» noKeywords Builtin.Frozenset.updateFrom
        generalize hPI : pyIter = PI
        obtain ⟨c1, d1, t1, s1⟩ := ol
        simp only at hcl
        subst hcl
        wp_walk
        subst hPI
        refine wpAny_pyIter_tuple hl1 ?_
        refine wpAny_bind (wpAny_runValue ?_)
        have h3 : A.in1.in1.in1.handled = none := by simp [hh]
        have z1 : (s.heap.push (eSet w)).objs.size = s.heap.objs.size + 1 := Heap.size_push ..
        have neI : l ≠ (s.heap.push (eSet w)).objs.size := by
          rw [z1]
          exact Nat.ne_of_lt (Nat.lt_succ_of_lt hlS)
        have nf : s.heap.objs.size ∉ [(s.heap.push (eSet w)).objs.size, l] := by
          rw [z1]
          simp only [List.mem_cons, List.mem_singleton, List.not_mem_nil, or_false, not_or]
          exact ⟨Nat.ne_of_lt (Nat.lt_succ_self _), Nat.ne_of_gt hlS⟩
        have hv : ∀ (i : Nat) (v : Value), items[i]? = some v → ∃ k, ks[i]? = some k ∧ keyIs k v = true := fun i v e => pairedAt hk i v (by rw [Array.getElem?_toList]; exact e)
        refine upd_walk ((Walks.tuple h3 _ l neI items).toS) nf ks sz room hv (items.size - 0) 0 _ (by omega) (Nat.zero_le _) ⟨⟨_, Heap.get?_push_size _ rfl, rfl, rfl⟩, hl1.push _⟩ ⟨0, Nat.le_refl 0, setQ_empty (ks := ks) (Heap.get?_push_of_some _ hS)⟩ fun z c mv hc hz => ?_
        obtain ⟨z0, g2, d2, t2, o2⟩ := z
        obtain rfl : g2 = s.gens := mv.gens
        obtain rfl : d2 = s.drawn := mv.drawn
        obtain rfl : o2 = s.os := mv.os
        show wpAny _ _ _ _ _ _
        refine wpAny_pure ?_
        show wpAny _ _ (ret Value.none) _ _ _
        rw [sz] at hc
        refine wpAny_pure ⟨rfl, z0, t2, c, rfl, hz, hc, fun b o e => ?_⟩
        have b0 : b < s.heap.objs.size := Heap.lt_size e
        refine mv.heap b o ?_ (Heap.get?_push_of_some _ (Heap.get?_push_of_some _ e))
        simp only [List.mem_cons, List.mem_singleton, List.not_mem_nil, or_false, not_or]
        exact ⟨Nat.ne_of_lt b0, by rw [z1]; exact Nat.ne_of_lt (Nat.lt_succ_of_lt b0)⟩
      · cases r2 with
        | error e => exact hr2
        | ok fl2 =>
          cases fl2 with
          | next => exact hr2.elim
          | brk => exact hr2.elim
          | cont => exact hr2.elim
          | ret r =>
            obtain ⟨rfl, y, tk, c, rfl, hy, hc, hk2⟩ := hr2
            repeat any_goals first | assumption | wp_step
            exact fin _ _ _ hy hc hk2
theorem call_set_list {l : Addr} {items : Array Value} (ks : List Key) {Q : Value → Shared → Prop} (hh : A.handled = none) (hl : s.heap.IsList l items) (hk : Paired (fun k v => keyIs k v = true) ks items.toList) (room : ks.length + 1 < scanBound)
    (fin : ∀ (z : Heap) (tk c : Nat), SetQ w z s.heap.objs.size (memK ks) c → c ≤ ks.length → (∀ b o, s.heap.get? b = some o → z.get? b = some o) → Q (.ref s.heap.objs.size) { s with heap := z, toks := tk }) :
    wpAny (model P w) A (call (.type "set") [.ref l]) Q E s := by
  have sz : items.size = ks.length := by
    have q := Paired.length hk
    rw [Array.length_toList] at q
    exact q.symm
  obtain ⟨c0, tl0, hmro⟩ := F.called_set.mro
  have m1 := F.called_set.made; have m2 := F.called_set.sub
  refine wpAny_call (codeAny_of_tree ?_)
  show wpAny _ _ (callAny (.type "set") _) _ _ _
  refine wpAny_pure ⟨Code.quiet_builtin _ (by decide +kernel), codeAny_builtin F.entry_type_call ?_⟩
  rw [Around.under_plain (weight_type_call_type "set" [.ref l] []) rfl]
  have m3 := F.called_set.notType; have m4 := F.called_set.canCreate; have m5 := F.typeCall_set_1 (.ref l)
  repeat any_goals first | assumption | wp_step
  refine codeAny_mono (code_set_led1 (.ref l) (E := E) (Q₁ := fun ob z => ob = .ref s.heap.objs.size ∧ z = { s with heap := s.heap.push (eSet w) }) ⟨rfl, rfl⟩) fun r z hr => ?_
  cases r with
  | error e => exact hr
  | ok fl =>
    cases fl with
    | next => exact hr.elim
    | brk => exact hr.elim
    | cont => exact hr.elim
    | ret ob =>
      obtain ⟨rfl, rfl⟩ := hr
      have hS : (s.heap.push (eSet w)).get? s.heap.objs.size = some (eSet w) := Heap.get?_push_size _ rfl
      have hT : Shared.TypeIs { s with heap := s.heap.push (eSet w) } (.ref s.heap.objs.size) "set" := ⟨_, hS, rfl⟩
      have m6 := F.called_set.init.lookup; have m7 := F.called_set.init.bind (.ref s.heap.objs.size)
      repeat any_goals first | assumption | wp_step
      refine codeAny_mono (codeAny_call_builtin (R := wants (fun r z => r = .none ∧ ∃ y tk c, z = { s with heap := y, toks := tk } ∧ SetQ w y s.heap.objs.size (memK ks) c ∧ c ≤ ks.length ∧ (∀ b o, s.heap.get? b = some o → y.get? b = some o)) E) F.called_set.init.plain F.entry_set_init (check_set_init_1 hT ?_)) fun r2 z2 hr2 => ?_
      · have hl1 : (s.heap.push (eSet w)).IsList l items := hl.push _
        obtain ⟨ol, hol, hcl, hrest⟩ := id hl
        have hlS : l < s.heap.objs.size := Heap.lt_size hol
        have hol' : (s.heap.push (eSet w)).get? l = some ol := Heap.get?_push_of_some _ hol
        have hTl : Shared.TypeIs { s with heap := s.heap.push (eSet w) } (.ref l) "list" := ⟨_, hol', hcl⟩
        have n1 := F.sub_list_set; have n2 := F.sub_list_frozenset; have n3 : (Value.type "list" == Value.type "dict") = false := by decide
        unfold Builtin.«set.__init__» noKeywords Builtin.Frozenset.updateFrom
        generalize hPI : pyIter = PI
        obtain ⟨c1, d1, t1, s1⟩ := ol
        simp only at hcl
        subst hcl
        wp_walk
        subst hPI
        refine wpAny_pyIter_list hl1 ?_
        refine wpAny_bind (wpAny_runValue ?_)
        have h3 : A.in1.in1.in1.handled = none := by simp [hh]
        have z1 : (s.heap.push (eSet w)).objs.size = s.heap.objs.size + 1 := Heap.size_push ..
        have neI : l ≠ (s.heap.push (eSet w)).objs.size := by
          rw [z1]
          exact Nat.ne_of_lt (Nat.lt_succ_of_lt hlS)
        have nf : s.heap.objs.size ∉ [(s.heap.push (eSet w)).objs.size, l] := by
          rw [z1]
          simp only [List.mem_cons, List.mem_singleton, List.not_mem_nil, or_false, not_or]
          exact ⟨Nat.ne_of_lt (Nat.lt_succ_self _), Nat.ne_of_gt hlS⟩
        have hv : ∀ (i : Nat) (v : Value), items[i]? = some v → ∃ k, ks[i]? = some k ∧ keyIs k v = true := fun i v e => pairedAt hk i v (by rw [Array.getElem?_toList]; exact e)
        refine upd_walk ((Walks.list h3 _ l neI items).toS) nf ks sz room hv (items.size - 0) 0 _ (by omega) (Nat.zero_le _) ⟨⟨_, Heap.get?_push_size _ rfl, rfl, rfl⟩, hl1.push _⟩ ⟨0, Nat.le_refl 0, setQ_empty (ks := ks) (Heap.get?_push_of_some _ hS)⟩ fun z c mv hc hz => ?_
        obtain ⟨z0, g2, d2, t2, o2⟩ := z
        obtain rfl : g2 = s.gens := mv.gens
        obtain rfl : d2 = s.drawn := mv.drawn
        obtain rfl : o2 = s.os := mv.os
        show wpAny _ _ _ _ _ _
        refine wpAny_pure ?_
        show wpAny _ _ (ret Value.none) _ _ _
        rw [sz] at hc
        refine wpAny_pure ⟨rfl, z0, t2, c, rfl, hz, hc, fun b o e => ?_⟩
        have b0 : b < s.heap.objs.size := Heap.lt_size e
        refine mv.heap b o ?_ (Heap.get?_push_of_some _ (Heap.get?_push_of_some _ e))
        simp only [List.mem_cons, List.mem_singleton, List.not_mem_nil, or_false, not_or]
        exact ⟨Nat.ne_of_lt b0, by rw [z1]; exact Nat.ne_of_lt (Nat.lt_succ_of_lt b0)⟩
      · cases r2 with
        | error e => exact hr2
        | ok fl2 =>
          cases fl2 with
          | next => exact hr2.elim
          | brk => exact hr2.elim
          | cont => exact hr2.elim
          | ret r =>
            obtain ⟨rfl, y, tk, c, rfl, hy, hc, hk2⟩ := hr2
            repeat any_goals first | assumption | wp_step
            exact fin _ _ _ hy hc hk2
end
end KX

/-! sorted lists of data, sets of keys: rules by values -/
namespace KX
open PySem PySem.Spec PyProof.Rows L2
abbrev eachIs {α β : Type} := @PySem.W.EachIs α β
def SetH (w : World) (a : Addr) (S : Key → Bool) (n : Nat) : HO := .ext fun h => SetQ w h a S n
theorem setH_new {P : Program} {w : World} {H : Hp} {h : Heap} {a : Addr} {S : Key → Bool} {n : Nat} (R : SetQ w h a S n) : ObjOk P w H h a (SetH w a S n) := by
  have ⟨o, _, _, _, ho, _⟩ := R
  exact ⟨R, ⟨o, ho⟩, fun h1 h2 p k => p.keep k⟩
theorem setH_get {X : Cx} {pins : List (Addr × Obj)} {σ : L2.St} {H : Hp} {s : Shared} {a : Addr} {S : Key → Bool} {n : Nat} (I : Inv X pins σ H s) (e : H a = some (SetH X.w a S n)) : SetQ X.w s.heap a S n := (I.hok a _ e).1
theorem keys_vals : ∀ {ks : List Key} {us : List Value}, Vals (ks.map kV) us → Paired (fun k v => keyIs k v = true) ks us
  | [], [], .nil => .nil
  | .inl i :: _, _ :: _, .cons h t => by
    obtain ⟨tk, rfl⟩ := h
    exact .cons (keyIs_int i tk) (keys_vals t)
  | .inr i :: _, _ :: _, .cons h t => by
    obtain ⟨tk, rfl⟩ := h
    exact .cons (keyIs_str i tk) (keys_vals t)
/-- set(xs): xs a list or a tuple of ints and texts -/
def rSetOf (K : PySem.W.Frag) (w : World) (list : Bool) : List V → Hp → VK → Prop := fun vs H Q => ∃ (p : Addr) (ks : List Key), vs = [.ref p] ∧ (if list = true then SqL K H p (ks.map kV) else SqT K H p (ks.map kV)) ∧ ks.length + 1 < scanBound ∧
  ∀ a c, H a = none → c ≤ ks.length → Q (.ref a) (upd H a (SetH w a (memK ks) c))
theorem cr_setT {X : Cx} (hc : X.calm = true) : CallR X (.type "set") (rSetOf X.K X.w false) := by
  intro pins s σ H xs us Q I r h
  obtain ⟨p, ks, rfl, hs, room, q⟩ := h
  rw [Vals.ref1 r]
  have hs : SqT X.K H p (ks.map kV) := by simpa using hs
  obtain ⟨its, rv, ⟨o, ho, hcl, n, hd⟩, hz⟩ := I.tuple hs
  refine call_set_tuple (items := its.toArray) ks (I.ok.hd hc) ⟨o, ho, hcl, n, hd⟩ (by simpa using keys_vals rv) room fun z tk c hq hl hk => ?_
  have hn : H s.heap.objs.size = none := I.hok.fresh (Nat.le_refl _)
  exact ⟨.ref _, upd H s.heap.objs.size (SetH X.w s.heap.objs.size (memK ks) c), I.laid (t' := tk) hk (Nat.le_refl _) (setH_new hq), rfl, q _ c hn hl⟩
theorem cr_setL {X : Cx} (hc : X.calm = true) : CallR X (.type "set") (rSetOf X.K X.w true) := by
  intro pins s σ H xs us Q I r h
  obtain ⟨p, ks, rfl, hs, room, q⟩ := h
  rw [Vals.ref1 r]
  have hs : SqL X.K H p (ks.map kV) := by simpa using hs
  obtain ⟨its, rv, ⟨o, n, ho, hcl, hdi, hd⟩, hz⟩ := I.list hs
  refine call_set_list (items := its.toArray) ks (I.ok.hd hc) ⟨o, ho, hcl, n, hd⟩ (by simpa using keys_vals rv) room fun z tk c hq hl hk => ?_
  have hn : H s.heap.objs.size = none := I.hok.fresh (Nat.le_refl _)
  exact ⟨.ref _, upd H s.heap.objs.size (SetH X.w s.heap.objs.size (memK ks) c), I.laid (t' := tk) hk (Nat.le_refl _) (setH_new hq), rfl, q _ c hn hl⟩
/-! ### sorted of a set -/
section
variable {X : Cx} {pins : List (Addr × Obj)} {σ : L2.St} {H : Hp} {s : Shared}
/-- what the sort of a new list asks and leaves, for items that need no heap -/
theorem sort_new {A : Around} {E : Value → Shared → Prop} {P : Program} {w : World} {β : Type} (enc : β → PyData) {vs : List Value} {bs : List β} {hp : Heap} {g : Array GenState} {d : Drawn} {t : Nat} {os : OsState} {Q : Value → Shared → Prop}
    (er : PySem.W.EachIs (fun v b => ∀ h : Heap, Reads h v (enc b) []) vs bs) (hal : PySem.W.AllAlike (bs.map enc)) (hk : PySem.W.Sortable (bs.map enc)) (hL : bs.length ≤ sizeLine) (hu : ∀ b ∈ bs, A.units + 1 + (enc b).depth < cLine)
    (fin : ∀ out z, PySem.W.EachIs (fun v b => ∀ h : Heap, Reads h v (enc b) []) out (bs.mergeSort (PySem.W.dataLe false enc)) → (∀ b o, hp.get? b = some o → z.get? b = some o) → (∃ n, z.get? hp.objs.size = some (seqObj "list" out.toArray n)) → Q .none ⟨z, g, d, t, os⟩) :
    wpAny (model P w) A (call (.builtin "list.sort") [.ref hp.objs.size]) Q E ⟨hp.push (seqObj "list" vs.toArray 0), g, d, t, os⟩ := by
  have ho : (hp.push (seqObj "list" vs.toArray 0)).get? hp.objs.size = some (seqObj "list" vs.toArray 0) := Heap.get?_push_size _ rfl
  refine PySem.W.list_sort_data (enc := enc) (R := fun v b => ∀ h : Heap, Reads h v (enc b) []) ho er (er.mono fun v b r => ⟨[], r _, List.not_mem_nil⟩) hal hk hL hu fun out hl ho2 => ?_
  obtain ⟨n, hn⟩ := sortedHeap_at (vs := vs) (out := out.toArray) ho
  refine fin out _ ho2 (fun b o e => ?_) ⟨n, hn⟩
  have lt := Heap.lt_size e
  rw [sortedHeap_old (Nat.ne_of_lt lt) (by rw [Heap.size_push]; exact Nat.lt_succ_of_lt lt)]
  exact Heap.get?_push_of_some _ e
theorem fine_ints {w : World} {ks : List (Int × Value)} (g : ∀ e ∈ ks, FineE w e) (hi : ∀ e ∈ ks, ∃ i, kAt e = .inl i) : ∃ ns : List Int, PySem.W.EachIs (fun v b => ∀ h : Heap, Reads h v (.int b) []) (ks.map (·.2)) ns ∧ ks.map kAt = ns.map Sum.inl := by
  induction ks with
  | nil => exact ⟨[], .nil, rfl⟩
  | cons e l ih =>
    obtain ⟨ns, h1, h2⟩ := ih (fun x hx => g x (List.mem_cons_of_mem _ hx)) (fun x hx => hi x (List.mem_cons_of_mem _ hx))
    obtain ⟨i, hi⟩ := hi e (List.mem_cons_self ..)
    have g1 := (g e (List.mem_cons_self ..)).1
    rw [hi] at g1
    obtain ⟨t, et⟩ := Value.isInt_shape (k := i) (v := e.2) g1
    refine ⟨i :: ns, .cons (fun h => by show Reads h e.2 (.int i) []; rw [et]; exact Reads.int i t) h1, ?_⟩
    rw [List.map_cons, List.map_cons, hi, h2]
theorem fine_strs {w : World} {ks : List (Int × Value)} (g : ∀ e ∈ ks, FineE w e) (hi : ∀ e ∈ ks, ∃ i, kAt e = .inr i) : ∃ ns : List Str, PySem.W.EachIs (fun v b => ∀ h : Heap, Reads h v (.str b) []) (ks.map (·.2)) ns ∧ ks.map kAt = ns.map Sum.inr := by
  induction ks with
  | nil => exact ⟨[], .nil, rfl⟩
  | cons e l ih =>
    obtain ⟨ns, h1, h2⟩ := ih (fun x hx => g x (List.mem_cons_of_mem _ hx)) (fun x hx => hi x (List.mem_cons_of_mem _ hx))
    obtain ⟨i, hi⟩ := hi e (List.mem_cons_self ..)
    have g1 := (g e (List.mem_cons_self ..)).1
    rw [hi] at g1
    obtain ⟨t, et⟩ := Value.isStrOf_shape (x := i) (v := e.2) g1
    refine ⟨i :: ns, .cons (fun h => by show Reads h e.2 (.str i) []; rw [et]; exact Reads.str i t) h1, ?_⟩
    rw [List.map_cons, List.map_cons, hi, h2]
/-- values that are put in another order -/
theorem each_perm {α β : Type} {R : α → β → Prop} : ∀ {as bs : List α}, as.Perm bs → ∀ {ns : List β}, PySem.W.EachIs R bs ns → ∃ ms, PySem.W.EachIs R as ms ∧ ms.Perm ns := by
  intro as bs p
  induction p with
  | nil =>
    intro ns e
    cases e
    exact ⟨[], .nil, .nil⟩
  | cons x _ ih =>
    intro ns e
    cases e with
    | cons h t =>
      obtain ⟨ms, h1, h2⟩ := ih t
      exact ⟨_ :: ms, .cons h h1, h2.cons _⟩
  | swap x y l =>
    intro ns e
    cases e with
    | cons h t =>
      cases t with
      | cons h' t => exact ⟨_, .cons h' (.cons h t), .swap _ _ _⟩
  | trans _ _ ih1 ih2 =>
    intro ns e
    obtain ⟨ms, h1, h2⟩ := ih2 e
    obtain ⟨ls, h3, h4⟩ := ih1 h1
    exact ⟨ls, h3, h4.trans h2⟩
/-- sorted of a set: what both kinds of items share -/
theorem sorted_setQ {A : Around} {E : Value → Shared → Prop} {P : Program} {w : World} {β : Type} (enc : β → PyData) (key : β → Key) {s : Shared} {a : Addr} {S : Key → Bool} {n : Nat} {Q : Value → Shared → Prop} (R : SetQ w s.heap a S n) (hh : A.handled = none) (hu : A.units + 64 < cLine)
    (items : ∀ ks : List (Int × Value), (∀ e ∈ ks, FineE w e) → (∀ e ∈ ks, S (kAt e) = true) → ∃ ns : List β, PySem.W.EachIs (fun v b => ∀ h : Heap, Reads h v (enc b) []) (ks.map (·.2)) ns ∧ ks.map kAt = ns.map key)
    (hal : ∀ b c, PySem.W.alike (enc b) (enc c) = true) (hk : ∀ b, enc b ≠ .none ∧ ∀ xs, enc b ≠ .tuple xs) (hd : ∀ b, (enc b).depth = 0)
    (fin : ∀ (z : Shared) (out : List Value) (c : Nat) (ns ms : List β), (∀ b o, s.heap.get? b = some o → z.heap.get? b = some o) → z.gens = s.gens → z.os = s.os → ∀ p, s.heap.objs.size ≤ p → z.heap.get? p = some (seqObj "list" out.toArray c) →
      PySem.W.EachIs (fun v b => ∀ h : Heap, Reads h v (enc b) []) out (ms.mergeSort (PySem.W.dataLe false enc)) → ms.Perm ns → (ns.map key).Nodup → (∀ k, S k = true ↔ k ∈ ns.map key) → ns.length = n → Q (.ref p) z) :
    wpAny (model P w) A (call (.builtin "sorted") [.ref a]) Q E s := by
  obtain ⟨o, es, ep, t, ho, hx, hd2, ge, ne, me, ⟨be, se⟩, fe, re, le⟩ := R
  refine Calls.call_function_entry kind_sorted plain_sorted entry_sorted (args_sorted1 _) ?_
  unfold Builtin.«sorted»
  refine wpAny_bind (m := checkCount "sorted" 1 1 _) (wpAny_pure (wpAny_bind (collect_set (A := A.in1) hh ⟨o, ho, hx.1, hd2⟩ fe be re le fun s1 vs k1 hz g1 o1 pm => ?_)))
  obtain ⟨ns, en, kn⟩ := items es.toList ge fun e he => (me _).2 (List.mem_map.mpr ⟨e, he, rfl⟩)
  obtain ⟨ms, em, pn⟩ := each_perm pm en
  have hl : ns.length = es.size := by
    have q := congrArg List.length kn
    rw [List.length_map, List.length_map, Array.length_toList] at q
    exact q.symm
  have b4 : es.size < 4096 := be
  have hL : ms.length ≤ sizeLine := by
    rw [pn.length_eq, hl, sizeLine_eq]
    omega
  refine wpAny_bind (wpAny_newList ?_ (by rw [em.length]; exact hL))
  obtain ⟨hp, g, d, tk, os⟩ := s1
  refine wpAny_bind (wpAny_holding (sort_new enc em (PySem.W.AllAlike.of hal) (PySem.W.Sortable.others hk) hL (fun b _ => by rw [hd b]; show A.units + 1 + 1 + 0 < cLine; omega) fun out z eo kz hz2 => ?_))
  obtain ⟨c, hc⟩ := hz2
  exact wpAny_pure ⟨_, rfl, fin ⟨z, g, d, tk, os⟩ out c ns ms (fun b o e => kz b o (k1 b o e)) g1 o1 hp.objs.size hz hc eo pn (by rw [← kn]; exact ne) (fun k => by rw [← kn]; exact me k) (hl.trans se)⟩
/-- the texts' order -/
def strLt (x y : Str) : Prop := x.cps.toList < y.cps.toList
theorem out_ints {out : List Value} {l : List Int} (h : PySem.W.EachIs (fun v b => ∀ h : Heap, Reads h v (.int b) []) out l) : Vals (l.map V.int) out := by
  induction h with
  | nil => exact .nil
  | cons h _ ih =>
    refine .cons ?_ ih
    have q := h { objs := #[] }
    cases q
    exact ⟨_, rfl⟩
theorem out_strs {out : List Value} {l : List Str} (h : PySem.W.EachIs (fun v b => ∀ h : Heap, Reads h v (.str b) []) out l) : Vals (l.map V.str) out := by
  induction h with
  | nil => exact .nil
  | cons h _ ih =>
    refine .cons ?_ ih
    have q := h { objs := #[] }
    cases q
    exact ⟨_, rfl⟩
/-- sorted(a set of ints) -/
def rSortI (w : World) : List V → Hp → VK → Prop := fun vs H Q => ∃ (a : Addr) (S : Key → Bool) (n : Nat), vs = [V.ref a] ∧ H a = some (SetH w a S n) ∧ (∀ k, S k = true → ∃ i : Int, k = .inl i) ∧
  ∀ (ns : List Int) (p : Addr), ns.Pairwise (· < ·) → (∀ k : Int, k ∈ ns ↔ S (.inl k) = true) → ns.length = n → H p = none → Q (.ref p) (upd H p (.lst (ns.map V.int)))
/-- sorted(a set of texts) -/
def rSortS (w : World) : List V → Hp → VK → Prop := fun vs H Q => ∃ (a : Addr) (S : Key → Bool) (n : Nat), vs = [V.ref a] ∧ H a = some (SetH w a S n) ∧ (∀ k, S k = true → ∃ i : Str, k = .inr i) ∧
  ∀ (ns : List Str) (p : Addr), ns.Pairwise strLt → (∀ k : Str, k ∈ ns ↔ S (.inr k) = true) → ns.length = n → H p = none → Q (.ref p) (upd H p (.lst (ns.map V.str)))
theorem list_laid {z : Shared} {vs : List V} {out : List Value} {c : Nat} {p : Addr} (I : Inv X pins σ H s) (k : ∀ b o, s.heap.get? b = some o → z.heap.get? b = some o) (hg : z.gens = s.gens) (ho : z.os = s.os) (hp : s.heap.objs.size ≤ p)
    (e : z.heap.get? p = some (seqObj "list" out.toArray c)) (r : Vals vs out) (hl : vs.length ≤ sizeLine) : Inv X pins σ (upd H p (.lst vs)) z := by
  have hn : H p = none := I.hok.fresh hp
  exact I.call' (ch := []) ho (Un.laid k hp hn) (I.hok.laid k hp ⟨hl, out, c, r, e⟩) (by rw [hg]; exact I.bare) fun _ z => nomatch z
theorem perm_sort {β : Type} {le : β → β → Bool} (l : List β) : (l.mergeSort le).Perm l := List.mergeSort_perm l le
theorem nodup_map_of {α β : Type} {f : α → β} : ∀ {l : List α}, (l.map f).Nodup → l.Nodup
  | [], _ => List.nodup_nil
  | x :: l, h => by
    rw [List.map_cons, List.nodup_cons] at h
    exact List.nodup_cons.mpr ⟨fun z => h.1 (List.mem_map.mpr ⟨x, z, rfl⟩), nodup_map_of h.2⟩
theorem cr_sortI (hc : X.calm = true) (hu : X.A.units + 64 < cLine) : CallR X (.builtin "sorted") (rSortI X.w) := by
  intro pins s σ H vs us Q I r h
  obtain ⟨a, S, n, rfl, ha, hS, q⟩ := h
  rw [Vals.ref1 r]
  refine sorted_setQ (fun i => PyData.int i) Sum.inl (setH_get I ha) (I.ok.hd hc) hu (fun ks g hk => fine_ints g fun e he => hS _ (hk e he)) (fun _ _ => rfl) (fun _ => ⟨fun z => (nomatch z), fun _ z => (nomatch z)⟩) (fun _ => rfl) fun z out c ns ms k hg ho p hp e eo pm nd mem hn => ?_
  have pn : (ms.mergeSort (PySem.W.dataLe false fun i => PyData.int i)).Perm ns := (perm_sort ms).trans pm
  have nd2 : (ms.mergeSort (PySem.W.dataLe false fun i => PyData.int i)).Nodup := pn.nodup_iff.mpr (nodup_map_of nd)
  have srt : (ms.mergeSort (PySem.W.dataLe false fun i : Int => PyData.int i)).Pairwise (fun a b => PySem.W.dataLe false (fun i : Int => PyData.int i) a b = true) := PySem.W.sort_pairwise (PySem.W.sortLe_total _ _ _) ms
  rw [PySem.W.dataLe_int (fun i : Int => i)] at srt pn nd2 eo
  refine ⟨.ref p, _, list_laid I k hg ho hp e (out_ints eo) ?_, rfl, q _ p ?_ (fun i => ?_) ?_ (I.hok.fresh hp)⟩
  · rw [List.length_map, pn.length_eq, hn]
    obtain ⟨_, _, _, _, _, _, _, _, _, _, ⟨b1, b2⟩, _⟩ := setH_get I ha
    rw [← b2]
    have b3 : scanBound = 4096 := rfl
    rw [sizeLine_eq]
    omega
  · refine (srt.and nd2).imp fun {x y} h => ?_
    have h1 := of_decide_eq_true h.1
    have h2 := h.2
    omega
  · rw [pn.mem_iff, mem]
    constructor
    · exact fun h => List.mem_map.mpr ⟨i, h, rfl⟩
    · intro h
      obtain ⟨j, hj, e⟩ := List.mem_map.mp h
      cases e
      exact hj
  · rw [pn.length_eq, hn]
theorem strLt_of {x y : Str} (h : x.cps.toList ≤ y.cps.toList) (n : x ≠ y) : strLt x y := by
  unfold strLt
  rcases List.le_iff_lt_or_eq.mp h with h | h
  · exact h
  · exfalso
    apply n
    cases x
    cases y
    simp only at h
    rw [Array.toList_inj.mp h]
theorem cr_sortS (hc : X.calm = true) (hu : X.A.units + 64 < cLine) : CallR X (.builtin "sorted") (rSortS X.w) := by
  intro pins s σ H vs us Q I r h
  obtain ⟨a, S, n, rfl, ha, hS, q⟩ := h
  rw [Vals.ref1 r]
  refine sorted_setQ (fun i => PyData.str i) Sum.inr (setH_get I ha) (I.ok.hd hc) hu (fun ks g hk => fine_strs g fun e he => hS _ (hk e he)) (fun _ _ => rfl) (fun _ => ⟨fun z => (nomatch z), fun _ z => (nomatch z)⟩) (fun _ => rfl) fun z out c ns ms k hg ho p hp e eo pm nd mem hn => ?_
  have pn : (ms.mergeSort (PySem.W.dataLe false fun i => PyData.str i)).Perm ns := (perm_sort ms).trans pm
  have nd2 : (ms.mergeSort (PySem.W.dataLe false fun i => PyData.str i)).Nodup := pn.nodup_iff.mpr (nodup_map_of nd)
  have srt : (ms.mergeSort (PySem.W.dataLe false fun i : Str => PyData.str i)).Pairwise (fun a b => PySem.W.dataLe false (fun i : Str => PyData.str i) a b = true) := PySem.W.sort_pairwise (PySem.W.sortLe_total _ _ _) ms
  rw [PySem.W.dataLe_str (fun i : Str => i)] at srt pn nd2 eo
  refine ⟨.ref p, _, list_laid I k hg ho hp e (out_strs eo) ?_, rfl, q _ p ?_ (fun i => ?_) ?_ (I.hok.fresh hp)⟩
  · rw [List.length_map, pn.length_eq, hn]
    obtain ⟨_, _, _, _, _, _, _, _, _, _, ⟨b1, b2⟩, _⟩ := setH_get I ha
    rw [← b2]
    have b3 : scanBound = 4096 := rfl
    rw [sizeLine_eq]
    omega
  · refine (srt.and nd2).imp fun {x y} h => ?_
    have h1 : x.cps.toList ≤ y.cps.toList := of_decide_eq_true h.1
    exact strLt_of h1 h.2
  · rw [pn.mem_iff, mem]
    constructor
    · exact fun h => List.mem_map.mpr ⟨i, h, rfl⟩
    · intro h
      obtain ⟨j, hj, e⟩ := List.mem_map.mp h
      cases e
      exact hj
  · rw [pn.length_eq, hn]
end
end KX

namespace K66
open PySem PySem.Spec PyProof.Rows L2 KX
/-! ### the mathematics of rules -/
abbrev Row := Int × Int
/-- rows as Rule takes them -/
structure RuleOk (rs : List Row) : Prop where
  ne : rs ≠ []
  len : rs.length ≤ 4
  row : ∀ r ∈ rs, 1 ≤ r.1 ∧ r.1 ≤ 200 ∧ 1 ≤ r.2 ∧ r.2 ≤ 8
  next : ∀ i r q, rs[i]? = some r → rs[i + 1]? = some q → r.1 < q.1 ∧ q.1 % r.1 = 0
/-- what _may_follow asks -/
def mayF (good : List Row) (p c : Int) : Bool :=
  if (4 : Int) ≤ good.length then false else if p < 1 then false else if 200 < p then false else
  if (0 : Int) < good.length then (if p ≤ (good.getLastD (0, 0)).1 then false else if p % (good.getLastD (0, 0)).1 ≠ 0 then false else (decide (1 ≤ c) && decide (c ≤ 8))) else (decide (1 ≤ c) && decide (c ≤ 8))
theorem RuleOk.may {rs : List Row} (h : RuleOk rs) {i : Nat} {r : Row} (e : rs[i]? = some r) : mayF (rs.take i) r.1 r.2 = true := by
  have hi : i < rs.length := (List.getElem?_eq_some_iff.mp e).1
  have hr := h.row r (List.mem_of_getElem? e)
  have hl := h.len
  have ht : (rs.take i).length = i := by rw [List.length_take]; omega
  unfold mayF
  rw [ht, if_neg (by omega), if_neg (by omega), if_neg (by omega)]
  cases i with
  | zero => rw [if_neg (by decide)]; simp; omega
  | succ j =>
    rw [if_pos (by omega)]
    obtain ⟨q, hq⟩ : ∃ q, rs[j]? = some q := ⟨rs[j]'(by omega), List.getElem?_eq_getElem (by omega)⟩
    have n := h.next j q r hq e
    have hq2 : (rs.take (j + 1)).getLastD (0, 0) = q := by
      rw [List.getLastD_eq_getLast?, List.getLast?_eq_getElem?, ht]
      simp [List.getElem?_take, hq]
    rw [hq2, if_neg (by omega), if_neg (by omega)]
    simp
    omega
/-- an age of a snapshot that stands at a tick, by one row -/
def ageBy (r : Row) (tick a : Int) : Prop := a % r.1 = tick % r.1 ∧ 0 ≤ a ∧ a / r.1 < r.2 ∧ a ≤ tick
def AgeIn (rs : List Row) (tick a : Int) : Prop := ∃ r ∈ rs, ageBy r tick a
theorem ageBy_iff {r : Row} (hp : 0 < r.1) {tick a : Int} : ageBy r tick a ↔ ∃ k : Nat, (k : Int) < r.2 ∧ a = tick % r.1 + k * r.1 ∧ a ≤ tick := by
  have h1 := Int.emod_nonneg tick (show r.1 ≠ 0 by omega)
  have h2 := Int.emod_lt_of_pos tick hp
  unfold ageBy
  constructor
  · rintro ⟨e, h0, hk, ht⟩
    have hd := Int.ediv_nonneg h0 (Int.le_of_lt hp)
    refine ⟨(a / r.1).toNat, by omega, ?_, ht⟩
    rw [Int.toNat_of_nonneg hd, ← e, Int.mul_comm]
    have := Int.emod_add_mul_ediv a r.1
    omega
  · rintro ⟨k, hk, rfl, ht⟩
    refine ⟨?_, ?_, ?_, ht⟩
    · rw [Int.add_mul_emod_self_right, Int.emod_emod]
    · have := Int.mul_nonneg (Int.natCast_nonneg k) (Int.le_of_lt hp)
      omega
    · rw [Int.add_mul_ediv_right _ _ (by omega), Int.ediv_eq_zero_of_lt h1 h2]
      omega
instance (r : Row) (t a : Int) : Decidable (ageBy r t a) := by unfold ageBy; exact inferInstance
/-- the ages at a tick, ascending -/
def agesF (rs : List Row) (tick : Int) : List Int := ((List.range 1600).map Int.ofNat).filter fun a => rs.any fun r => decide (ageBy r tick a)
theorem agesF_pw (rs : List Row) (tick : Int) : (agesF rs tick).Pairwise (· < ·) := by
  refine List.Pairwise.filter _ ?_
  rw [List.pairwise_map]
  exact List.pairwise_lt_range.imp fun h => Int.ofNat_lt.mpr h
theorem agesF_mem {rs : List Row} (h : ∀ r ∈ rs, 1 ≤ r.1 ∧ r.1 ≤ 200 ∧ 1 ≤ r.2 ∧ r.2 ≤ 8) {tick a : Int} : a ∈ agesF rs tick ↔ AgeIn rs tick a := by
  unfold agesF AgeIn
  rw [List.mem_filter, List.any_eq_true]
  constructor
  · rintro ⟨_, r, hr, e⟩
    exact ⟨r, hr, of_decide_eq_true e⟩
  · rintro ⟨r, hr, e⟩
    refine ⟨?_, r, hr, decide_eq_true e⟩
    obtain ⟨h1, h2, h3, h4⟩ := h r hr
    obtain ⟨e1, e2, e3, e4⟩ := e
    have e5 := Int.emod_add_mul_ediv a r.1
    have e6 := Int.emod_lt_of_pos a (show 0 < r.1 by omega)
    have e7 : r.1 * (a / r.1) ≤ 200 * 7 := Int.le_trans (Int.mul_le_mul_of_nonneg_right h2 (Int.ediv_nonneg e2 (by omega))) (Int.mul_le_mul_of_nonneg_left (by omega) (by omega))
    rw [List.mem_map]
    refine ⟨a.toNat, List.mem_range.mpr (by omega), ?_⟩
    show ((a.toNat : Nat) : Int) = a
    omega
/-- two ascending lists of the same items are one -/
theorem asc_unique : ∀ {l m : List Int}, l.Pairwise (· < ·) → m.Pairwise (· < ·) → (∀ a, a ∈ l ↔ a ∈ m) → l = m
  | [], [], _, _, _ => rfl
  | [], y :: m, _, _, h => by have := (h y).mpr (List.mem_cons_self ..); cases this
  | x :: l, [], _, _, h => by have := (h x).mp (List.mem_cons_self ..); cases this
  | x :: l, y :: m, h1, h2, h => by
    rw [List.pairwise_cons] at h1 h2
    have e : x = y := by
      have a := (h x).mp (List.mem_cons_self ..)
      have b := (h y).mpr (List.mem_cons_self ..)
      rcases List.mem_cons.mp a with a | a
      · exact a
      · rcases List.mem_cons.mp b with b | b
        · exact b.symm
        · have := h1.1 y b
          have := h2.1 x a
          omega
    subst e
    rw [asc_unique h1.2 h2.2 fun a => ?_]
    have q := h a
    rw [List.mem_cons, List.mem_cons] at q
    constructor
    · intro z
      rcases q.mp (.inr z) with e | e
      · have := h1.1 a z; omega
      · exact e
    · intro z
      rcases q.mpr (.inr z) with e | e
      · have := h2.1 a z; omega
      · exact e
/-- differences of neighbours -/
def diffs : Int → List Int → List Int
  | _, [] => []
  | b, a :: r => (a - b) :: diffs a r
def downs : Int → List Int → List Int
  | _, [] => []
  | b, a :: r => (b - a) :: downs a r
theorem downs_eq (tick : Int) : ∀ (b : Int) (l : List Int), downs (tick - b) (l.map fun a => tick - a) = diffs b l
  | _, [] => rfl
  | b, a :: r => by
    rw [List.map_cons]
    show (tick - b - (tick - a)) :: downs (tick - a) _ = (a - b) :: diffs a r
    rw [downs_eq tick a r, show tick - b - (tick - a) = a - b by omega]
def gapsF (rs : List Row) (tick : Int) : List Int := diffs 0 (agesF rs tick)
/-- the rooms' sum, as min is written -/
def minP (pages x : Int) : Int := if x < pages then x else pages
def roomG (gaps : List Int) (pages rate : Int) : Int := pages + (gaps.map fun g => minP pages (rate * g)).sum
def roomF (rs : List Row) (tick pages rate : Int) : Int := roomG (gapsF rs tick) pages rate
/-- the standing ticks of the law's own text give the same gaps -/
theorem stands_gaps {rs : List Row} (h : ∀ r ∈ rs, 1 ≤ r.1 ∧ r.1 ≤ 200 ∧ 1 ≤ r.2 ∧ r.2 ≤ 8) {tick : Int} {st : List Int} (hs : st.Pairwise (· < ·)) (hm : ∀ z, z ∈ st ↔ AgeIn rs tick (tick - z)) : downs tick st.reverse = gapsF rs tick := by
  have e : agesF rs tick = st.reverse.map fun z => tick - z := by
    refine asc_unique (agesF_pw rs tick) ?_ fun a => ?_
    · rw [List.pairwise_map, List.pairwise_reverse]
      exact hs.imp fun h => by omega
    · rw [agesF_mem h, List.mem_map]
      constructor
      · intro q
        exact ⟨tick - a, List.mem_reverse.mpr ((hm _).mpr (by rw [show tick - (tick - a) = a by omega]; exact q)), by omega⟩
      · rintro ⟨z, hz, rfl⟩
        exact (hm z).mp (List.mem_reverse.mp hz)
  unfold gapsF
  rw [e]
  have q := downs_eq tick 0 (st.reverse.map fun z => tick - z)
  rw [← q, List.map_map]
  have e2 : ((fun a => tick - a) ∘ fun z : Int => tick - z) = id := by
    funext z
    show tick - (tick - z) = z
    omega
  rw [e2, List.map_id, show tick - 0 = tick by omega]
/-! ### the greatest -/
def IsMax (l : List Int) (m : Int) : Prop := m ∈ l ∧ ∀ y ∈ l, y ≤ m
theorem IsMax.eq {l : List Int} {m n : Int} (h : IsMax l m) (k : IsMax l n) : m = n := Int.le_antisymm (k.2 _ h.1) (h.2 _ k.1)
def prods (rs : List Row) : List Int := rs.map fun r => r.1 * r.2
/-- of f below n: the greatest value, the first place that has it -/
structure Best (f : Nat → Int) (n : Nat) (m : Int) (i : Nat) : Prop where
  lt : i < n
  at_ : f i = m
  le : ∀ j, j < n → f j ≤ m
  first : ∀ j, j < i → f j < m
theorem Best.eq {f : Nat → Int} {n : Nat} {m m' : Int} {i i' : Nat} (h : Best f n m i) (k : Best f n m' i') : m = m' ∧ i = i' := by
  have e : m = m' := by
    have a := h.le i' k.lt
    have b := k.le i h.lt
    have c := h.at_
    have d := k.at_
    omega
  subst e
  refine ⟨rfl, ?_⟩
  rcases Nat.lt_trichotomy i i' with z | z | z
  · have a := k.first i z
    have b := h.at_
    omega
  · exact z
  · have a := h.first i' z
    have b := k.at_
    omega
/-! ### the ages come round -/
theorem last_div {rs : List Row} (h : RuleOk rs) : ∀ (d i : Nat) (r q : Row), rs[i]? = some r → rs[i + d]? = some q → q.1 % r.1 = 0 := by
  intro d
  induction d with
  | zero =>
    intro i r q h1 h2
    rw [Nat.add_zero, h1] at h2
    cases h2
    exact Int.emod_self
  | succ d ih =>
    intro i r q h1 h2
    have hl : i + d < rs.length := by
      have := (List.getElem?_eq_some_iff.mp h2).1
      omega
    have hm : rs[i + d]? = some rs[i + d] := List.getElem?_eq_getElem hl
    have a := ih i r _ h1 hm
    have b := (h.next (i + d) _ q hm h2).2
    exact Int.emod_eq_zero_of_dvd (Int.dvd_trans (Int.dvd_of_emod_eq_zero a) (Int.dvd_of_emod_eq_zero b))
theorem div_last {rs : List Row} (h : RuleOk rs) {r q : Row} (hr : r ∈ rs) (hq : rs.getLast? = some q) : r.1 ∣ q.1 := by
  obtain ⟨i, hi, e⟩ := List.mem_iff_getElem.mp hr
  rw [List.getLast?_eq_getElem?] at hq
  have := last_div h (rs.length - 1 - i) i r q (by rw [List.getElem?_eq_getElem hi, e]) (by rw [show i + (rs.length - 1 - i) = rs.length - 1 by omega]; exact hq)
  exact Int.dvd_of_emod_eq_zero this
theorem age_settled {rs : List Row} (h : RuleOk rs) {m tick a : Int} (hm : IsMax (prods rs) m) (ht : m ≤ tick) : AgeIn rs tick a ↔ ∃ r ∈ rs, a % r.1 = tick % r.1 ∧ 0 ≤ a ∧ a / r.1 < r.2 := by
  constructor
  · rintro ⟨r, hr, e1, e2, e3, _⟩
    exact ⟨r, hr, e1, e2, e3⟩
  · rintro ⟨r, hr, e1, e2, e3⟩
    refine ⟨r, hr, e1, e2, e3, ?_⟩
    obtain ⟨h1, h2, h3, h4⟩ := h.row r hr
    have q := hm.2 (r.1 * r.2) (List.mem_map.mpr ⟨r, hr, rfl⟩)
    have e5 := Int.emod_add_mul_ediv a r.1
    have e6 := Int.emod_lt_of_pos a (show 0 < r.1 by omega)
    have e7 : r.1 * (a / r.1 + 1) ≤ r.1 * r.2 := Int.mul_le_mul_of_nonneg_left (by omega) (by omega)
    rw [Int.mul_add, Int.mul_one] at e7
    omega
theorem ages_round {rs : List Row} (h : RuleOk rs) {q : Row} (hq : rs.getLast? = some q) {m t u : Int} (hm : IsMax (prods rs) m) (ht : m ≤ t) (hu : m ≤ u) (e : t % q.1 = u % q.1) : agesF rs t = agesF rs u := by
  refine asc_unique (agesF_pw _ _) (agesF_pw _ _) fun a => ?_
  rw [agesF_mem h.row, agesF_mem h.row, age_settled h hm ht, age_settled h hm hu]
  have key : ∀ r ∈ rs, t % r.1 = u % r.1 := fun r hr => by
    have d := div_last h hr hq
    have a1 := Int.emod_emod_of_dvd t d
    have a2 := Int.emod_emod_of_dvd u d
    rw [← a1, ← a2, e]
  constructor
  · rintro ⟨r, hr, e1, e2⟩
    exact ⟨r, hr, by rw [e1, key r hr], e2⟩
  · rintro ⟨r, hr, e1, e2⟩
    exact ⟨r, hr, by rw [e1, key r hr], e2⟩
/-- the greatest room of one period behind settled is that of all ticks -/
theorem room_le {rs : List Row} (h : RuleOk rs) {q : Row} (hq : rs.getLast? = some q) {m pages rate best : Int} {n i : Nat} (hm : IsMax (prods rs) m) (hn : (n : Int) = m + q.1) (hb : Best (fun j => roomF rs (j : Int) pages rate) n best i) {t : Int} (ht : 0 ≤ t) : roomF rs t pages rate ≤ best := by
  have hq1 : 1 ≤ q.1 := (h.row q (List.mem_of_getLast? hq)).1
  by_cases c : t < m + q.1
  · have z := hb.le t.toNat (by omega)
    rw [Int.toNat_of_nonneg ht] at z
    exact z
  · have e1 := Int.emod_nonneg (t - m) (show q.1 ≠ 0 by omega)
    have e2 := Int.emod_lt_of_pos (t - m) (show 0 < q.1 by omega)
    have e0 : 0 ≤ m := by
      obtain ⟨r, hr, e⟩ := List.mem_map.mp hm.1
      have hr1 := h.row r hr
      rw [← e]
      exact Int.mul_nonneg (by omega) (by omega)
    have z := hb.le (m + (t - m) % q.1).toNat (by omega)
    rw [Int.toNat_of_nonneg (by omega)] at z
    have e3 : agesF rs t = agesF rs (m + (t - m) % q.1) := ages_round h hq hm (by omega) (by omega) (by
      have e4 := Int.emod_add_mul_ediv (t - m) q.1
      have e5 : t = m + (t - m) % q.1 + q.1 * ((t - m) / q.1) := by omega
      conv => lhs; rw [e5]
      rw [Int.add_mul_emod_self_left])
    unfold roomF gapsF at z ⊢
    rw [e3]
    exact z
end K66

namespace K66
open PySem PySem.Spec PyProof.Rows L2 KX
def top (i : Nat) : Stmt := PySem.Challenge.pw_whatcomesfree_k66_greatest_of_all_ticks.main.body.getD i (.Pass ⟨0, 0, 0, 0⟩)
abbrev s_Rule___init__ : Stmt := inClass (top 5) 3
abbrev s_Rule__may_follow : Stmt := inClass (top 5) 4
abbrev s_Rule_period : Stmt := inClass (top 5) 7
abbrev s_Rule_settled : Stmt := inClass (top 5) 8
abbrev s_Rule__ages : Stmt := inClass (top 5) 9
abbrev s_Rule_gaps : Stmt := inClass (top 5) 11
abbrev s_room_at : Stmt := top 7
abbrev s_greatest_room : Stmt := top 8
abbrev s__law_mix : Stmt := top 10
abbrev s__law_start : Stmt := top 11
abbrev s__law_next : Stmt := top 12
abbrev s__law_is : Stmt := top 13
abbrev s__law_rule : Stmt := top 14
abbrev s__law_stands : Stmt := top 15
abbrev s__law_gaps : Stmt := top 16
abbrev s__law_size : Stmt := top 17
abbrev s__law_room : Stmt := top 18
abbrev s__law_greatest : Stmt := top 19
abbrev s_law : Stmt := top 20
def d_Rule___init__ : He5.DefA := ⟨fun K => He.ma K (He.ga K "Rule") "__init__", "__init__", "Rule.__init__", defArgs s_Rule___init__, defBody s_Rule___init__, defScope s_Rule___init__, [], []⟩
def d_Rule__may_follow : He5.DefA := ⟨fun K => He.ma K (He.ga K "Rule") "_may_follow", "_may_follow", "Rule._may_follow", defArgs s_Rule__may_follow, defBody s_Rule__may_follow, defScope s_Rule__may_follow, [], []⟩
def d_Rule_period : He5.DefA := ⟨fun K => propG K (He.ga K "Rule") "period", "period", "Rule.period", defArgs s_Rule_period, defBody s_Rule_period, defScope s_Rule_period, [], []⟩
def d_Rule_settled : He5.DefA := ⟨fun K => propG K (He.ga K "Rule") "settled", "settled", "Rule.settled", defArgs s_Rule_settled, defBody s_Rule_settled, defScope s_Rule_settled, [], []⟩
def d_Rule__ages : He5.DefA := ⟨fun K => He.ma K (He.ga K "Rule") "_ages", "_ages", "Rule._ages", defArgs s_Rule__ages, defBody s_Rule__ages, defScope s_Rule__ages, [], []⟩
def d_Rule_gaps : He5.DefA := ⟨fun K => He.ma K (He.ga K "Rule") "gaps", "gaps", "Rule.gaps", defArgs s_Rule_gaps, defBody s_Rule_gaps, defScope s_Rule_gaps, [], []⟩
def d_room_at : He5.DefA := ⟨fun K => He.ga K "room_at", "room_at", "room_at", defArgs s_room_at, defBody s_room_at, defScope s_room_at, [], []⟩
def d_greatest_room : He5.DefA := ⟨fun K => He.ga K "greatest_room", "greatest_room", "greatest_room", defArgs s_greatest_room, defBody s_greatest_room, defScope s_greatest_room, [], []⟩
def d__law_mix : He5.DefA := ⟨fun K => He.ga K "_law_mix", "_law_mix", "_law_mix", defArgs s__law_mix, defBody s__law_mix, defScope s__law_mix, [], []⟩
def d__law_start : He5.DefA := ⟨fun K => He.ga K "_law_start", "_law_start", "_law_start", defArgs s__law_start, defBody s__law_start, defScope s__law_start, [], []⟩
def d__law_next : He5.DefA := ⟨fun K => He.ga K "_law_next", "_law_next", "_law_next", defArgs s__law_next, defBody s__law_next, defScope s__law_next, [], []⟩
def d__law_is : He5.DefA := ⟨fun K => He.ga K "_law_is", "_law_is", "_law_is", defArgs s__law_is, defBody s__law_is, defScope s__law_is, [], []⟩
def d__law_rule : He5.DefA := ⟨fun K => He.ga K "_law_rule", "_law_rule", "_law_rule", defArgs s__law_rule, defBody s__law_rule, defScope s__law_rule, [], []⟩
def d__law_stands : He5.DefA := ⟨fun K => He.ga K "_law_stands", "_law_stands", "_law_stands", defArgs s__law_stands, defBody s__law_stands, defScope s__law_stands, [], []⟩
def d__law_gaps : He5.DefA := ⟨fun K => He.ga K "_law_gaps", "_law_gaps", "_law_gaps", defArgs s__law_gaps, defBody s__law_gaps, defScope s__law_gaps, [], []⟩
def d__law_size : He5.DefA := ⟨fun K => He.ga K "_law_size", "_law_size", "_law_size", defArgs s__law_size, defBody s__law_size, defScope s__law_size, [], []⟩
def d__law_room : He5.DefA := ⟨fun K => He.ga K "_law_room", "_law_room", "_law_room", defArgs s__law_room, defBody s__law_room, defScope s__law_room, [], []⟩
def d__law_greatest : He5.DefA := ⟨fun K => He.ga K "_law_greatest", "_law_greatest", "_law_greatest", defArgs s__law_greatest, defBody s__law_greatest, defScope s__law_greatest, [], []⟩
def d_law : He5.DefA := ⟨fun K => He.ga K "law", "law", "law", defArgs s_law, defBody s_law, defScope s_law, [], []⟩
def fns : List He5.DefA := [d_Rule___init__, d_Rule__may_follow, d_Rule_period, d_Rule_settled, d_Rule__ages, d_Rule_gaps, d_room_at, d_greatest_room, d__law_mix, d__law_start, d__law_next, d__law_is, d__law_rule, d__law_stands, d__law_gaps, d__law_size, d__law_room, d__law_greatest, d_law]
def exs : List Bk := [(fun K => (He.Fa.glo "room_at").ok K), (fun K => (He.Fa.glo "greatest_room").ok K), (fun K => (He.Fa.glo "_law_mix").ok K), (fun K => (He.Fa.glo "_law_start").ok K), (fun K => (He.Fa.glo "_law_next").ok K), (fun K => (He.Fa.glo "_law_is").ok K), (fun K => (He.Fa.glo "_law_rule").ok K), (fun K => (He.Fa.glo "_law_stands").ok K), (fun K => (He.Fa.glo "_law_gaps").ok K), (fun K => (He.Fa.glo "_law_size").ok K), (fun K => (He.Fa.glo "_law_room").ok K), (fun K => (He.Fa.glo "_law_greatest").ok K), (fun K => (He.Fa.glo "law").ok K), (fun K => (He.Fa.glo "Rule").ok K), (fun K => (He.Fa.cls "Rule").ok K), (fun K => (He.Fa.mkr "Rule").ok K), (fun K => (He.Fa.noat "Rule" "rows").ok K), (fun K => (He.Fa.meth "Rule" "_may_follow").ok K), (fun K => (He.Fa.meth "Rule" "_ages").ok K), (fun K => (He.Fa.meth "Rule" "gaps").ok K), (fun K => propB K (He.ga K "Rule") "period"), (fun K => propB K (He.ga K "Rule") "settled"), (fun K => He.conB K "Rule" "MOST_ROWS" (.int 4)), (fun K => He.conB K "Rule" "MOST_PERIOD" (.int 200)), (fun K => He.conB K "Rule" "MOST_COUNT" (.int 8)), (fun K => (He.Fa.free "len").ok K), (fun K => (He.Fa.free "range").ok K), (fun K => (He.Fa.free "sorted").ok K), (fun K => (He.Fa.free "max").ok K), (fun K => (He.Fa.free "min").ok K), (fun K => (He.Fa.free "sum").ok K), (fun K => (He.Fa.free "abs").ok K), (fun K => (He.Fa.free "int").ok K), (fun K => (He.Fa.free "isinstance").ok K), (fun K => (He.Fa.free "reversed").ok K), (fun K => (He.Fa.free "set").ok K), (fun K => (He.Fa.free "tuple").ok K), (fun K => (He.Fa.free "list").ok K), (fun K => (He.Fa.free "all").ok K), (fun K => (He.Fa.free "str").ok K), (fun K => (He.Fa.free "dict").ok K), (fun K => (He.Fa.free "bool").ok K)]
structure Txt (K : PySem.W.Frag) (mg : Str → Option Value) : Prop where
  F_Rule___init__ : FDt K d_Rule___init__
  F_Rule__may_follow : FDt K d_Rule__may_follow
  F_Rule_period : FDt K d_Rule_period
  F_Rule_settled : FDt K d_Rule_settled
  F_Rule__ages : FDt K d_Rule__ages
  F_Rule_gaps : FDt K d_Rule_gaps
  F_room_at : FDt K d_room_at
  F_greatest_room : FDt K d_greatest_room
  F__law_mix : FDt K d__law_mix
  F__law_start : FDt K d__law_start
  F__law_next : FDt K d__law_next
  F__law_is : FDt K d__law_is
  F__law_rule : FDt K d__law_rule
  F__law_stands : FDt K d__law_stands
  F__law_gaps : FDt K d__law_gaps
  F__law_size : FDt K d__law_size
  F__law_room : FDt K d__law_room
  F__law_greatest : FDt K d__law_greatest
  F_law : FDt K d_law
  g_room_at : mg "room_at" = some (.ref (He.ga K "room_at"))
  g_greatest_room : mg "greatest_room" = some (.ref (He.ga K "greatest_room"))
  g__law_mix : mg "_law_mix" = some (.ref (He.ga K "_law_mix"))
  g__law_start : mg "_law_start" = some (.ref (He.ga K "_law_start"))
  g__law_next : mg "_law_next" = some (.ref (He.ga K "_law_next"))
  g__law_is : mg "_law_is" = some (.ref (He.ga K "_law_is"))
  g__law_rule : mg "_law_rule" = some (.ref (He.ga K "_law_rule"))
  g__law_stands : mg "_law_stands" = some (.ref (He.ga K "_law_stands"))
  g__law_gaps : mg "_law_gaps" = some (.ref (He.ga K "_law_gaps"))
  g__law_size : mg "_law_size" = some (.ref (He.ga K "_law_size"))
  g__law_room : mg "_law_room" = some (.ref (He.ga K "_law_room"))
  g__law_greatest : mg "_law_greatest" = some (.ref (He.ga K "_law_greatest"))
  g_law : mg "law" = some (.ref (He.ga K "law"))
  g_Rule : mg "Rule" = some (.ref (He.ga K "Rule"))
  cl_Rule : Cls K (He.ga K "Rule")
  mk_Rule : Mk K (He.ga K "Rule") (He.ma K (He.ga K "Rule") "__init__")
  no_Rule_rows : NoAttr K (He.ga K "Rule") "rows"
  me_Rule__may_follow : Meth K (He.ga K "Rule") "_may_follow" (He.ma K (He.ga K "Rule") "_may_follow")
  me_Rule__ages : Meth K (He.ga K "Rule") "_ages" (He.ma K (He.ga K "Rule") "_ages")
  me_Rule_gaps : Meth K (He.ga K "Rule") "gaps" (He.ma K (He.ga K "Rule") "gaps")
  pr_Rule_period : PropOf K (He.ga K "Rule") "period" (propP K (He.ga K "Rule") "period") (propG K (He.ga K "Rule") "period")
  pr_Rule_settled : PropOf K (He.ga K "Rule") "settled" (propP K (He.ga K "Rule") "settled") (propG K (He.ga K "Rule") "settled")
  co_Rule_MOST_ROWS : ∃ u, Con K (He.ga K "Rule") "MOST_ROWS" (.int 4) u
  co_Rule_MOST_PERIOD : ∃ u, Con K (He.ga K "Rule") "MOST_PERIOD" (.int 200) u
  co_Rule_MOST_COUNT : ∃ u, Con K (He.ga K "Rule") "MOST_COUNT" (.int 8) u
  b_len : mg "len" = none
  b_range : mg "range" = none
  b_sorted : mg "sorted" = none
  b_max : mg "max" = none
  b_min : mg "min" = none
  b_sum : mg "sum" = none
  b_abs : mg "abs" = none
  b_int : mg "int" = none
  b_isinstance : mg "isinstance" = none
  b_reversed : mg "reversed" = none
  b_set : mg "set" = none
  b_tuple : mg "tuple" = none
  b_list : mg "list" = none
  b_all : mg "all" = none
  b_str : mg "str" = none
  b_dict : mg "dict" = none
  b_bool : mg "bool" = none
theorem txt_of {K : PySem.W.Frag} {h : Heap} {mg : Str → Option Value} (X : K.In h) (G : h.Ns mainGlobals mg) (c : SayK exs fns K) : Txt K mg where
  F_Rule___init__ := c.fd 0 (d := d_Rule___init__) rfl
  F_Rule__may_follow := c.fd 1 (d := d_Rule__may_follow) rfl
  F_Rule_period := c.fd 2 (d := d_Rule_period) rfl
  F_Rule_settled := c.fd 3 (d := d_Rule_settled) rfl
  F_Rule__ages := c.fd 4 (d := d_Rule__ages) rfl
  F_Rule_gaps := c.fd 5 (d := d_Rule_gaps) rfl
  F_room_at := c.fd 6 (d := d_room_at) rfl
  F_greatest_room := c.fd 7 (d := d_greatest_room) rfl
  F__law_mix := c.fd 8 (d := d__law_mix) rfl
  F__law_start := c.fd 9 (d := d__law_start) rfl
  F__law_next := c.fd 10 (d := d__law_next) rfl
  F__law_is := c.fd 11 (d := d__law_is) rfl
  F__law_rule := c.fd 12 (d := d__law_rule) rfl
  F__law_stands := c.fd 13 (d := d__law_stands) rfl
  F__law_gaps := c.fd 14 (d := d__law_gaps) rfl
  F__law_size := c.fd 15 (d := d__law_size) rfl
  F__law_room := c.fd 16 (d := d__law_room) rfl
  F__law_greatest := c.fd 17 (d := d__law_greatest) rfl
  F_law := c.fd 18 (d := d_law) rfl
  g_room_at := He.glo_ok X G (c.ex 0 (f := fun K => (He.Fa.glo "room_at").ok K) rfl)
  g_greatest_room := He.glo_ok X G (c.ex 1 (f := fun K => (He.Fa.glo "greatest_room").ok K) rfl)
  g__law_mix := He.glo_ok X G (c.ex 2 (f := fun K => (He.Fa.glo "_law_mix").ok K) rfl)
  g__law_start := He.glo_ok X G (c.ex 3 (f := fun K => (He.Fa.glo "_law_start").ok K) rfl)
  g__law_next := He.glo_ok X G (c.ex 4 (f := fun K => (He.Fa.glo "_law_next").ok K) rfl)
  g__law_is := He.glo_ok X G (c.ex 5 (f := fun K => (He.Fa.glo "_law_is").ok K) rfl)
  g__law_rule := He.glo_ok X G (c.ex 6 (f := fun K => (He.Fa.glo "_law_rule").ok K) rfl)
  g__law_stands := He.glo_ok X G (c.ex 7 (f := fun K => (He.Fa.glo "_law_stands").ok K) rfl)
  g__law_gaps := He.glo_ok X G (c.ex 8 (f := fun K => (He.Fa.glo "_law_gaps").ok K) rfl)
  g__law_size := He.glo_ok X G (c.ex 9 (f := fun K => (He.Fa.glo "_law_size").ok K) rfl)
  g__law_room := He.glo_ok X G (c.ex 10 (f := fun K => (He.Fa.glo "_law_room").ok K) rfl)
  g__law_greatest := He.glo_ok X G (c.ex 11 (f := fun K => (He.Fa.glo "_law_greatest").ok K) rfl)
  g_law := He.glo_ok X G (c.ex 12 (f := fun K => (He.Fa.glo "law").ok K) rfl)
  g_Rule := He.glo_ok X G (c.ex 13 (f := fun K => (He.Fa.glo "Rule").ok K) rfl)
  cl_Rule := He.cls_ok (c.ex 14 (f := fun K => (He.Fa.cls "Rule").ok K) rfl)
  mk_Rule := He.mkr_ok (c.ex 15 (f := fun K => (He.Fa.mkr "Rule").ok K) rfl)
  no_Rule_rows := He.noat_ok (c.ex 16 (f := fun K => (He.Fa.noat "Rule" "rows").ok K) rfl)
  me_Rule__may_follow := He.meth_ok (c.ex 17 (f := fun K => (He.Fa.meth "Rule" "_may_follow").ok K) rfl)
  me_Rule__ages := He.meth_ok (c.ex 18 (f := fun K => (He.Fa.meth "Rule" "_ages").ok K) rfl)
  me_Rule_gaps := He.meth_ok (c.ex 19 (f := fun K => (He.Fa.meth "Rule" "gaps").ok K) rfl)
  pr_Rule_period := propB_ok (c.ex 20 (f := fun K => propB K (He.ga K "Rule") "period") rfl)
  pr_Rule_settled := propB_ok (c.ex 21 (f := fun K => propB K (He.ga K "Rule") "settled") rfl)
  co_Rule_MOST_ROWS := He.conB_ok (c.ex 22 (f := fun K => He.conB K "Rule" "MOST_ROWS" (.int 4)) rfl)
  co_Rule_MOST_PERIOD := He.conB_ok (c.ex 23 (f := fun K => He.conB K "Rule" "MOST_PERIOD" (.int 200)) rfl)
  co_Rule_MOST_COUNT := He.conB_ok (c.ex 24 (f := fun K => He.conB K "Rule" "MOST_COUNT" (.int 8)) rfl)
  b_len := He.free_ok X G (c.ex 25 (f := fun K => (He.Fa.free "len").ok K) rfl)
  b_range := He.free_ok X G (c.ex 26 (f := fun K => (He.Fa.free "range").ok K) rfl)
  b_sorted := He.free_ok X G (c.ex 27 (f := fun K => (He.Fa.free "sorted").ok K) rfl)
  b_max := He.free_ok X G (c.ex 28 (f := fun K => (He.Fa.free "max").ok K) rfl)
  b_min := He.free_ok X G (c.ex 29 (f := fun K => (He.Fa.free "min").ok K) rfl)
  b_sum := He.free_ok X G (c.ex 30 (f := fun K => (He.Fa.free "sum").ok K) rfl)
  b_abs := He.free_ok X G (c.ex 31 (f := fun K => (He.Fa.free "abs").ok K) rfl)
  b_int := He.free_ok X G (c.ex 32 (f := fun K => (He.Fa.free "int").ok K) rfl)
  b_isinstance := He.free_ok X G (c.ex 33 (f := fun K => (He.Fa.free "isinstance").ok K) rfl)
  b_reversed := He.free_ok X G (c.ex 34 (f := fun K => (He.Fa.free "reversed").ok K) rfl)
  b_set := He.free_ok X G (c.ex 35 (f := fun K => (He.Fa.free "set").ok K) rfl)
  b_tuple := He.free_ok X G (c.ex 36 (f := fun K => (He.Fa.free "tuple").ok K) rfl)
  b_list := He.free_ok X G (c.ex 37 (f := fun K => (He.Fa.free "list").ok K) rfl)
  b_all := He.free_ok X G (c.ex 38 (f := fun K => (He.Fa.free "all").ok K) rfl)
  b_str := He.free_ok X G (c.ex 39 (f := fun K => (He.Fa.free "str").ok K) rfl)
  b_dict := He.free_ok X G (c.ex 40 (f := fun K => (He.Fa.free "dict").ok K) rfl)
  b_bool := He.free_ok X G (c.ex 41 (f := fun K => (He.Fa.free "bool").ok K) rfl)
end K66
namespace K66
open PySem PySem.Spec PyProof.Rows L2 KX
theorem p64 : (0 : Int) < 2 ^ Int.toNat 64 := by decide
end K66
namespace K66
open PySem PySem.Spec PyProof.Rows L2 KX
/-- some number: which one does not matter -/
def pr__law_mix (K : PySem.W.Frag) : Pro Int Int := { args := fun n => [.int n], val := fun _ m => .int m }
theorem sc__law_mix : FnScope ["number"] ["number"] (defScope s__law_mix) := ⟨rfl, rfl, rfl, by decide +kernel, rfl, by decide +kernel, by decide +kernel⟩
theorem bi__law_mix {K : PySem.W.Frag} {mg : Str → Option Value} (T : Txt K mg) : Binds K (fdA K (He.ga K "_law_mix")) ["number"] [] := T.F__law_mix.bindsN fun _ _ _ _ _ _ us hl => match us, hl with | [_], _ => rfl
theorem ok__law_mix {P : Program} {w0 : World} {K : PySem.W.Frag} {mg : Str → Option Value} {base : Heap} (T : Txt K mg) : FnOk P w0 K mg base CX0 1 (He.ga K "_law_mix") (fdA K (He.ga K "_law_mix")) ["number"] ((pr__law_mix K).sp K) := by
  refine T.F__law_mix.ok sc__law_mix (fun vs H Q E h => by
    obtain ⟨x, e⟩ := Pro.len h
    rw [e]
    rfl) (fun cdv A outer s0 H vs Q E hr h => ?_)
  obtain ⟨x, G0, rfl, hp, see, w, k⟩ := Pro.use h
  refine ⟨_, PSs.nox (pss_cons (ps_set (i := 0) sc__law_mix.nd rfl (by first | exact Or.inl rfl | exact Or.inr rfl) (pe_op op_mod (pe_callTy call_int1 (by rfl) T.b_int (by decide +kernel) (pa_cons (pe_op op_add (pe_op op_mul (pv 0) pe_int) pe_int) pa_nil)) (pe_op op_pow pe_int pe_int)))
      (pss_cons (ps_set (i := 0) sc__law_mix.nd rfl (by first | exact Or.inl rfl | exact Or.inr rfl) (pe_op op_xor (pv 0) (pe_op op_fdivW (pv 0) (pe_op op_pow pe_int pe_int))))
      (pss_cons (ps_set (i := 0) sc__law_mix.nd rfl (by first | exact Or.inl rfl | exact Or.inr rfl) (pe_op op_mod (pe_callTy call_int1 (by rfl) T.b_int (by decide +kernel) (pa_cons (pe_op op_add (pe_op op_mul (pv 0) pe_int) pe_int) pa_nil)) (pe_op op_pow pe_int pe_int)))
      (pss_one (ps_ret (pe_op op_xor (pv 0) (pe_op op_fdivW (pv 0) (pe_op op_pow pe_int pe_int)))))))), ?_⟩
  refine ⟨_, rfl, _, _, rfl, rfl, .inr ⟨by decide, by decide⟩, _, _, rfl, rfl, .inl ⟨_, rfl, _, _, rfl, rfl, ⟨by decide, by decide, by decide⟩, _, _, rfl, rfl, p64, ?_⟩⟩
  refine ⟨_, rfl, _, rfl, _, _, rfl, rfl, ⟨by decide, by decide, by decide⟩, _, _, rfl, rfl, ⟨by decide, by decide⟩, _, _, rfl, rfl, ?_⟩
  refine ⟨_, rfl, _, _, rfl, rfl, .inr ⟨by decide, by decide⟩, _, _, rfl, rfl, .inl ⟨_, rfl, _, _, rfl, rfl, ⟨by decide, by decide, by decide⟩, _, _, rfl, rfl, p64, ?_⟩⟩
  refine ⟨_, rfl, _, rfl, _, _, rfl, rfl, ⟨by decide, by decide, by decide⟩, _, _, rfl, rfl, ⟨by decide, by decide⟩, _, _, rfl, rfl, ?_⟩
  exact k _ _ _ _ w in0 trivial rfl
end K66

namespace K66
open PySem PySem.Spec PyProof.Rows L2 KX
def pr__law_start (K : PySem.W.Frag) : Pro (Addr × List Int) (Addr × Addr) := { args := fun x => [.ref x.1], need := fun x => [.one (.ref x.1) (.list (x.2.map PyData.int))], val := fun _ y => .ref y.1, news := fun _ y => [(y.1, .lst [.ref y.2, .int 0, .int 0, .int 0])], gives := fun x y => [.one (.ref y.2) (.list (x.2.map PyData.int))] }
theorem sc__law_start : FnScope ["script"] ["script"] (defScope s__law_start) := ⟨rfl, rfl, rfl, by decide +kernel, rfl, by decide +kernel, by decide +kernel⟩
theorem bi__law_start {K : PySem.W.Frag} {mg : Str → Option Value} (T : Txt K mg) : Binds K (fdA K (He.ga K "_law_start")) ["script"] [] := T.F__law_start.bindsN fun _ _ _ _ _ _ us hl => match us, hl with | [_], _ => rfl
theorem ok__law_start {P : Program} {w0 : World} {K : PySem.W.Frag} {mg : Str → Option Value} {base : Heap} (T : Txt K mg) : FnOk P w0 K mg base CX0 1 (He.ga K "_law_start") (fdA K (He.ga K "_law_start")) ["script"] ((pr__law_start K).sp K) := by
  refine T.F__law_start.ok sc__law_start (fun vs H Q E h => by
    obtain ⟨x, e⟩ := Pro.len h
    rw [e]
    rfl) (fun cdv A outer s0 H vs Q E hr h => ?_)
  obtain ⟨x, G0, rfl, hp, see, w, k⟩ := Pro.use h
  refine ⟨_, PSs.nox (pss_one (ps_ret (pe_lst (pa_cons (pe_callTy call_list_of (by rfl) T.b_list (by decide +kernel) (pa_cons (pv 0) pa_nil)) (pa_cons pe_int (pa_cons pe_int (pa_cons pe_int pa_nil))))))), ?_⟩
  obtain ⟨a, vs, e1, hs, hl, w⟩ := w.lst (.head _)
  cases e1
  refine ⟨_, rfl, _, _, rfl, .inl hs, fun l hl => ?_⟩
  have w := w.newL hl m0
  refine ⟨by show 4 ≤ sizeLine; decide, fun s hs => ?_⟩
  have w := w.newM hs (.lst [.ref l, .int 0, .int 0, .int 0])
  exact k _ [] _ (s, l) w (in1 m0) trivial rfl
end K66
namespace K66
open PySem PySem.Spec PyProof.Rows L2 KX
/-- some number below the limit -/
def pr__law_next (K : PySem.W.Frag) : Pro (Sg × Int) Int := { args := fun x => [.ref x.1.s, .int x.2], need := fun x => x.1.need, ext := fun x => x.1.ext, pre := fun x => 0 < x.2 ∧ x.2.natAbs.log2 < 9000, val := fun _ r => .int r, post := fun x r => 0 ≤ r ∧ r < x.2 }
theorem sc__law_next : FnScope ["state", "limit", "number", "drawn"] ["state", "limit"] (defScope s__law_next) := ⟨rfl, rfl, rfl, by decide +kernel, rfl, by decide +kernel, by decide +kernel⟩
theorem bi__law_next {K : PySem.W.Frag} {mg : Str → Option Value} (T : Txt K mg) : Binds K (fdA K (He.ga K "_law_next")) ["state", "limit"] [] := T.F__law_next.bindsN fun _ _ _ _ _ _ us hl => match us, hl with | [_, _], _ => rfl
theorem ok__law_next {P : Program} {w0 : World} {K : PySem.W.Frag} {mg : Str → Option Value} {base : Heap} (T : Txt K mg) : FnOk P w0 K mg base CX0 2 (He.ga K "_law_next") (fdA K (He.ga K "_law_next")) ["state", "limit"] ((pr__law_next K).sp K) := by
  refine T.F__law_next.ok sc__law_next (fun vs H Q E h => by
    obtain ⟨x, e⟩ := Pro.len h
    rw [e]
    rfl) (fun cdv A outer s0 H vs Q E hr h => ?_)
  obtain ⟨x, G0, rfl, hp, see, w, k⟩ := Pro.use h
  refine ⟨_, PSs.nox (pss_cons (ps_asg (pe_op op_add (pe_ix ix_list (pv 0) pe_int (fun _ _ => rfl)) pe_int) (pg_sub (pv 0) pe_int set_list))
      (C8.pss_cut (ps_if (pt_cmpR op_eq (pe_ix ix_list (pv 0) pe_int (fun _ _ => rfl)) pe_int (nomark _))
        (pss_cons (ps_set (i := 2) sc__law_next.nd rfl (by first | exact Or.inl rfl | exact Or.inr rfl) (pe_call (ok__law_mix T) (hr.mono (by decide)) (by rfl) T.g__law_mix T.F__law_mix.kp (bi__law_mix T) .nil pass0 (pa_cons (pe_op op_add (pe_ix ix_list (pv 0) pe_int (fun _ _ => rfl)) (pe_op op_mul pe_int (pe_callB call_len_seq (by rfl) T.b_len PySem.boot_len (pa_cons (pe_ix ix_list (pv 0) pe_int (fun _ _ => rfl)) pa_nil)))) pa_nil)))
        (C8.pss_cut (ps_if (pt_cmpR op_lt (pe_ix ix_list (pv 0) pe_int (fun _ _ => rfl)) (pe_callB call_len_seq (by rfl) T.b_len PySem.boot_len (pa_cons (pe_ix ix_list (pv 0) pe_int (fun _ _ => rfl)) pa_nil)) (nomark _))
          (pss_cons (ps_set (i := 2) sc__law_next.nd rfl (by first | exact Or.inl rfl | exact Or.inr rfl) (pe_callB call_abs (by rfl) T.b_abs (by decide +kernel) (pa_cons (pe_ix ix_list (pe_ix ix_list (pv 0) pe_int (fun _ _ => rfl)) (pe_ix ix_list (pv 0) pe_int (fun _ _ => rfl)) (fun _ _ => rfl)) pa_nil)))
          (pss_one (ps_if (pt_cmpR op_lt (pv 2) (pe_op op_pow pe_int pe_int) (nomark _))
            (pss_one (ps_set (i := 2) sc__law_next.nd rfl (by first | exact Or.inl rfl | exact Or.inr rfl) (pe_call (ok__law_mix T) (hr.mono (by decide)) (by rfl) T.g__law_mix T.F__law_mix.kp (bi__law_mix T) .nil pass0 (pa_cons (pe_op op_add (pe_call (ok__law_mix T) (hr.mono (by decide)) (by rfl) T.g__law_mix T.F__law_mix.kp (bi__law_mix T) .nil pass0 (pa_cons (pv 2) pa_nil)) (pe_ix ix_list (pv 0) pe_int (fun _ _ => rfl))) pa_nil))))
            pss_nil)))
          pss_nil)
        (pss_cons (ps_asg (pe_op op_add (pe_ix ix_list (pv 0) pe_int (fun _ _ => rfl)) pe_int) (pg_sub (pv 0) pe_int set_list))
        (pss_one (ps_asg (pv 2) (pg_sub (pv 0) pe_int set_list))))))
        pss_nil)
      (pss_cons (ps_set (i := 3) sc__law_next.nd rfl (by first | exact Or.inl rfl | exact Or.inr rfl) (pe_op op_mod (pe_callTy call_int1 (by rfl) T.b_int (by decide +kernel) (pa_cons (pe_ix ix_list (pv 0) pe_int (fun _ _ => rfl)) pa_nil)) (pv 1)))
      (pss_cons (ps_asg (pe_op op_fdivW (pe_ix ix_list (pv 0) pe_int (fun _ _ => rfl)) (pv 1)) (pg_sub (pv 0) pe_int set_list))
      (pss_one (ps_ret (pv 3))))))), ?_⟩
  obtain ⟨g, lim⟩ := x
  obtain ⟨s, scr, ns⟩ := g
  obtain ⟨h1, h2⟩ := hp
  obtain ⟨o, ho, a, b, c, rfl, ha⟩ := w.atX (.head _)
  refine ⟨_, rfl, _, _, _, _, rfl, rfl, SqL.of ho, rfl, _, _, rfl, rfl, _, rfl, _, _, _, _, rfl, rfl, ho, rfl, ?_⟩
  have w := w.putX (o' := .lst [.ref scr, .int a, .int b, .int (c + 1)]) ⟨a, b, c + 1, rfl, ha⟩
  refine ⟨fun σ' H' => ∃ n, σ' = [some (.ref s), some (.int lim), n, none] ∧ Wd K G0 H H' [(s, IsSt scr)] [] [.one (.ref scr) (.list (ns.map PyData.int))], ?_, ?_⟩
  · refine ⟨_, rfl, _, _, _, _, rfl, rfl, SqL.of upd_same, rfl, rfl, _, rfl, ite2 (fun _ => ?_) (fun _ => ⟨none, rfl, w⟩)⟩
    obtain ⟨l, vs, e1, hs, hl, w⟩ := w.lst (.head _)
    cases e1
    refine ⟨_, rfl, _, _, _, _, rfl, rfl, SqL.of upd_same, rfl, _, rfl, _, _, _, _, rfl, rfl, SqL.of upd_same, rfl, _, _, rfl, .inl hs, _, _, rfl, rfl, .inl ⟨by decide, by decide⟩, _, _, rfl, rfl, ?_⟩
    refine Pro.call0 (r := pr__law_mix K) _ w rfl trivial in0 fun H1 n w _ _ => ?_
    have w := w.sub (qs := [.one (.ref scr) (.list (ns.map PyData.int))]) (in1 m2)
    refine ⟨fun σ' H' => ∃ n, σ' = [some (.ref s), some (.int lim), some (.int n), none] ∧ Wd K G0 H H' [(s, IsSt scr)] [] [.one (.ref scr) (.list (ns.map PyData.int))], ?_, ?_⟩
    · obtain ⟨o, ho, a, b, c, rfl, ha⟩ := w.atX (.head _)
      obtain ⟨l, vs, e1, hs, hl, w⟩ := w.lst (.head _)
      cases e1
      have ev := w.ints (.head _)
      subst ev
      have w' := w.sub (qs := [.one (.ref scr) (.list (ns.map PyData.int))]) (in1 m2)
      refine ⟨_, rfl, _, _, _, _, rfl, rfl, SqL.of ho, rfl, _, rfl, _, _, _, _, rfl, rfl, SqL.of ho, rfl, _, _, rfl, .inl hs, _, _, rfl, rfl, _, rfl, ite2 (fun hlt => ?_) (fun _ => ⟨n, rfl, w'⟩)⟩
      have hlt : a < ((ns.map V.int).length : Int) := of_decide_eq_true hlt
      rw [List.length_map] at hlt
      obtain ⟨j, rfl⟩ := Int.eq_ofNat_of_zero_le ha
      obtain ⟨m, hm⟩ : ∃ m, ns[j]? = some m := ⟨ns[j]'(by omega), List.getElem?_eq_getElem (by omega)⟩
      refine ⟨_, rfl, _, _, _, _, rfl, rfl, SqL.of ho, rfl, _, rfl, _, _, _, _, rfl, rfl, SqL.of ho, rfl, _, _, _, _, rfl, rfl, hs, atI_nat (v := .int m) (by rw [List.getElem?_map, hm]; rfl), _, rfl, ?_⟩
      refine ⟨_, rfl, _, _, rfl, rfl, ⟨by decide, by decide, by decide⟩, _, _, rfl, rfl, _, rfl, ite2 (fun _ => ?_) (fun _ => ⟨_, rfl, w'⟩)⟩
      refine ⟨_, rfl, ?_⟩
      refine Pro.call0 (r := pr__law_mix K) _ w' rfl trivial in0 fun H2 n w _ _ => ?_
      obtain ⟨o, ho, a, b, c, rfl, ha⟩ := w.atX (.head _)
      refine ⟨_, rfl, _, _, _, _, rfl, rfl, SqL.of ho, rfl, _, _, rfl, rfl, ?_⟩
      refine Pro.call0 (r := pr__law_mix K) _ w rfl trivial in0 fun H3 n w _ _ => ?_
      exact ⟨n, rfl, w.sub inAll⟩
    · rintro σ' H' ⟨n, rfl, w⟩
      obtain ⟨o, ho, a, b, c, rfl, ha⟩ := w.atX (.head _)
      refine ⟨_, rfl, _, _, _, _, rfl, rfl, SqL.of ho, rfl, _, _, rfl, rfl, _, rfl, _, _, _, _, rfl, rfl, ho, rfl, ?_⟩
      have w := w.putX (o' := .lst [.ref scr, .int (a + 1), .int b, .int c]) ⟨a + 1, b, c, rfl, by omega⟩
      refine ⟨_, rfl, _, rfl, _, _, _, _, rfl, rfl, upd_same, rfl, ?_⟩
      have w := w.putX (o' := .lst [.ref scr, .int (a + 1), .int n, .int c]) ⟨a + 1, n, c, rfl, by omega⟩
      exact ⟨some (.int n), rfl, w⟩
  · rintro σ' H' ⟨n, rfl, w⟩
    obtain ⟨o, ho, a, b, c, rfl, ha⟩ := w.atX (.head _)
    refine ⟨_, rfl, _, _, _, _, rfl, rfl, SqL.of ho, rfl, .inl ⟨_, rfl, _, rfl, _, _, rfl, rfl, h1, ?_⟩⟩
    refine ⟨_, rfl, _, _, _, _, rfl, rfl, SqL.of ho, rfl, _, rfl, _, _, rfl, rfl, ⟨h1, h2⟩, _, rfl, _, _, _, _, rfl, rfl, ho, rfl, ?_⟩
    have w := w.putX (o' := .lst [.ref scr, .int a, .int (b / lim), .int c]) ⟨a, b / lim, c, rfl, ha⟩
    refine ⟨_, rfl, ?_⟩
    exact k _ [] _ (b % lim) w in0 ⟨Int.emod_nonneg _ (by omega), Int.emod_lt_of_pos _ h1⟩ rfl
end K66
namespace K66
open PySem PySem.Spec PyProof.Rows L2 KX
def pr__law_is (n : Nat) (K : PySem.W.Frag) : Pro (V × V × PyData) Unit := { args := fun x => [x.1, x.2.1], need := fun x => [.one x.1 x.2.2, .one x.2.1 x.2.2], pre := fun x => isD n x.2.2 = true, val := fun _ _ => .bl true }
def isSp (K : PySem.W.Frag) : Nat → Sp
  | 0 => fun _ _ _ _ => False
  | n + 1 => (pr__law_is n K).sp K
theorem sc__law_is : FnScope ["told", "due", "key", "k"] ["told", "due"] (defScope s__law_is) := ⟨rfl, rfl, rfl, by decide +kernel, rfl, by decide +kernel, by decide +kernel⟩
theorem bi__law_is {K : PySem.W.Frag} {mg : Str → Option Value} (T : Txt K mg) : Binds K (fdA K (He.ga K "_law_is")) ["told", "due"] [] := T.F__law_is.bindsN fun _ _ _ _ _ _ us hl => match us, hl with | [_, _], _ => rfl
theorem ok__law_is_n {P : Program} {w0 : World} {K : PySem.W.Frag} {mg : Str → Option Value} {base : Heap} (T : Txt K mg) : ∀ n, FnOk P w0 K mg base CX0 n (He.ga K "_law_is") (fdA K (He.ga K "_law_is")) ["told", "due"] (isSp K n)
  | 0 => fnOk0
  | n + 1 => by
    have F := ok__law_is_n (P := P) (w0 := w0) (base := base) T n
    refine T.F__law_is.ok sc__law_is (fun vs H Q E h => by
      obtain ⟨x, e⟩ := Pro.len (r := pr__law_is n K) h
      rw [e]
      rfl) (fun cdv A outer s0 H vs Q E hr h => ?_)
    obtain ⟨x, G0, rfl, hp, see, w, k⟩ := Pro.use (r := pr__law_is n K) h
    obtain ⟨v, u, d⟩ := x
    refine ⟨_, PSs.nox (pss_cons (ps_if (pt_cmpR op_isN (pv 1) pe_non (nomark _))
        (pss_one (ps_ret (pe_cmpR op_isN (pv 0) pe_non (nomark _))))
        pss_nil)
      (pss_cons (ps_if (pt_val (pe_callB call_isi (by rfl) T.b_isinstance (by decide +kernel) (pa_cons (pv 1) (pa_cons (pe_bltn (v := .ty "int") (by rfl) T.b_int (by decide +kernel) rfl) pa_nil))))
        (pss_one (ps_ret (pe_and (pe_callB call_isi (by rfl) T.b_isinstance (by decide +kernel) (pa_cons (pv 0) (pa_cons (pe_bltn (v := .ty "int") (by rfl) T.b_int (by decide +kernel) rfl) pa_nil))) (pe_and (pe_not (pe_callB call_isi (by rfl) T.b_isinstance (by decide +kernel) (pa_cons (pv 0) (pa_cons (pe_bltn (v := .ty "bool") (by rfl) T.b_bool (by decide +kernel) rfl) pa_nil)))) (pe_one (pe_cmpR op_eq (pv 0) (pv 1) (nomark _)))))))
        pss_nil)
      (pss_cons (ps_if (pt_val (pe_callB call_isi (by rfl) T.b_isinstance (by decide +kernel) (pa_cons (pv 1) (pa_cons (pe_bltn (v := .ty "str") (by rfl) T.b_str (by decide +kernel) rfl) pa_nil))))
        (pss_one (ps_ret (pe_and (pe_callB call_isi (by rfl) T.b_isinstance (by decide +kernel) (pa_cons (pv 0) (pa_cons (pe_bltn (v := .ty "str") (by rfl) T.b_str (by decide +kernel) rfl) pa_nil))) (pe_one (pe_cmpR op_eq (pv 0) (pv 1) (nomark _))))))
        pss_nil)
      (pss_cons (ps_if (pt_val (pe_callB call_isi (by rfl) T.b_isinstance (by decide +kernel) (pa_cons (pv 1) (pa_cons (pe_bltn (v := .ty "dict") (by rfl) T.b_dict (by decide +kernel) rfl) pa_nil))))
        pss_never
        pss_nil)
      (pss_cons (ps_if (PW.pt (pw_or (PW.pt (pw_and (pt_val (pe_callB call_isi (by rfl) T.b_isinstance (by decide +kernel) (pa_cons (pv 1) (pa_cons (pe_bltn (v := .ty "tuple") (by rfl) T.b_tuple (by decide +kernel) rfl) pa_nil)))) (pw_and1 (pt_not (pt_val (pe_callB call_isi (by rfl) T.b_isinstance (by decide +kernel) (pa_cons (pv 0) (pa_cons (pe_bltn (v := .ty "tuple") (by rfl) T.b_tuple (by decide +kernel) rfl) pa_nil)))))))) (pw_or1 (PW.pt (pw_and (pt_val (pe_callB call_isi (by rfl) T.b_isinstance (by decide +kernel) (pa_cons (pv 1) (pa_cons (pe_bltn (v := .ty "list") (by rfl) T.b_list (by decide +kernel) rfl) pa_nil)))) (pw_and1 (pt_not (pt_val (pe_callB call_isi (by rfl) T.b_isinstance (by decide +kernel) (pa_cons (pv 0) (pa_cons (pe_bltn (v := .ty "list") (by rfl) T.b_list (by decide +kernel) rfl) pa_nil)))))))))))
        (pss_one (ps_ret pe_bl))
        pss_nil)
      (pss_one (ps_ret (pe_and (pe_cmpR op_eq (pe_callB call_len (by rfl) T.b_len PySem.boot_len (pa_cons (pv 0) pa_nil)) (pe_callB call_len (by rfl) T.b_len PySem.boot_len (pa_cons (pv 1) pa_nil)) (nomark _)) (pe_one (pe_callB (cr_all rfl) (by rfl) T.b_all (by decide +kernel) (pa_cons (pe_lc (own := [("k", 3)]) (g := (gName 3)) rfl sc__law_is.nd (pi_range1 (by rfl) T.b_range (pa_cons (pe_callB call_len (by rfl) T.b_len PySem.boot_len (pa_cons (pv 1) pa_nil)) pa_nil)) (blkOk_by (N := ["told", "due", "key", "k"]) (sc := defScope s__law_is) (by decide +kernel)) (fun _ _ _ _ _ => (pg_name (i := 3) sc__law_is.nd rfl (by first | exact Or.inl rfl | exact Or.inr rfl))) (fun _ _ _ _ _ => pts_nil) (fun _ _ _ _ _ => (pe_call F hr (by rfl) T.g__law_is T.F__law_is.kp (bi__law_is T) .nil pass0 (pa_cons (pe_ix (show IxR _ (rIx K) from ix_seq) (pv 0) (pv 3) (fun _ _ => rfl)) (pa_cons (pe_ix (show IxR _ (rIx K) from ix_seq) (pv 1) (pv 3) (fun _ _ => rfl)) pa_nil))))) pa_nil))))))))))), ?_⟩
    dsimp only [cxOf, Cx.nox, Cx.wish]
    have hv : Dp K H v d := w.dp m0
    have hu : Dp K H u d := w.dp m1
    have fin : Q (.bl true) H := k _ [] _ () w in0 trivial rfl
    cases d with
    | bool b => cases n <;> cases hp
    | dict b => cases n <;> cases hp
    | none =>
      cases hv
      cases hu
      exact ⟨_, rfl, rfl, _, rfl, iteP rfl ⟨_, rfl, rfl, fin⟩⟩
    | int i =>
      have tv : TyX K H v (.type "int") := tyx hv
      have tu : TyX K H u (.type "int") := tyx hu
      cases hv
      cases hu
      refine ⟨_, rfl, rfl, _, rfl, iteN nnInt ?_⟩
      refine ⟨_, rfl, _, _, _, _, true, rfl, .ty _, tu, kit_ty (by decide +kernel), _, rfl, iteP rfl ?_⟩
      refine ⟨_, rfl, _, _, _, _, true, rfl, .ty _, tv, kit_ty (by decide +kernel), _, rfl, iteP rfl ?_⟩
      refine ⟨_, rfl, _, _, _, _, false, rfl, .ty _, tv, kit_ty (by decide +kernel), _, rfl, _, rfl, iteP rfl ?_⟩
      refine ⟨_, rfl, _, rfl, rfl, ?_⟩
      show Q (.bl (decide (V.int i = V.int i))) H
      rw [decide_eq_true rfl]
      exact fin
    | str i =>
      have tv : TyX K H v (.type "str") := tyx hv
      have tu : TyX K H u (.type "str") := tyx hu
      cases hv
      cases hu
      refine ⟨_, rfl, rfl, _, rfl, iteN nnStr ?_⟩
      refine ⟨_, rfl, _, _, _, _, false, rfl, .ty _, tu, kit_ty (by decide +kernel), _, rfl, iteN ff ?_⟩
      refine ⟨_, rfl, _, _, _, _, true, rfl, .ty _, tu, kit_ty (by decide +kernel), _, rfl, iteP rfl ?_⟩
      refine ⟨_, rfl, _, _, _, _, true, rfl, .ty _, tv, kit_ty (by decide +kernel), _, rfl, iteP rfl ?_⟩
      refine ⟨_, rfl, _, rfl, rfl, ?_⟩
      show Q (.bl (decide (V.str i = V.str i))) H
      rw [decide_eq_true rfl]
      exact fin
    | list ds =>
      cases n with
      | zero => cases hp
      | succ m =>
      obtain ⟨hlen, hall⟩ := He.ba (show (decide (ds.length < 100000) && ds.all (isD m)) = true from hp)
      have hlen := of_decide_eq_true hlen
      obtain ⟨va, xs, e1, sv, lv, w⟩ := w.lst m0
      obtain ⟨ua, ys, e2, su, lu, w⟩ := w.lst m3
      dsimp only at e1 e2
      subst e1 e2
      have tv : TyX K H (.ref va) (.type "list") := tyx hv
      have tu : TyX K H (.ref ua) (.type "list") := tyx hu
      refine ⟨_, rfl, rfl, _, rfl, iteN nnRef ?_⟩
      refine ⟨_, rfl, _, _, _, _, false, rfl, .ty _, tu, kit_ty (by decide +kernel), _, rfl, iteN ff ?_⟩
      refine ⟨_, rfl, _, _, _, _, false, rfl, .ty _, tu, kit_ty (by decide +kernel), _, rfl, iteN ff ?_⟩
      refine ⟨_, rfl, _, _, _, _, false, rfl, .ty _, tu, kit_ty (by decide +kernel), _, rfl, iteN ff ?_⟩
      refine ⟨_, rfl, _, _, _, _, false, rfl, .ty _, tu, kit_ty (by decide +kernel), _, rfl, iteN ff ?_⟩
      refine iteN ff ⟨_, rfl, _, _, _, _, true, rfl, .ty _, tu, kit_ty (by decide +kernel), _, rfl, iteP rfl ?_⟩
      refine ⟨_, rfl, _, _, _, _, true, rfl, .ty _, tv, kit_ty (by decide +kernel), _, rfl, iteN ff ?_⟩
      refine ⟨_, rfl, _, xs.length, rfl, .inl ⟨_, sv, rfl⟩, _, rfl, _, ys.length, rfl, .inl ⟨_, su, rfl⟩, rfl, _, rfl, iteP (decide_eq_true (by rw [lv, lu])) ?_⟩
      refine ⟨_, rfl, _, ys.length, rfl, .inl ⟨_, su, rfl⟩, _, rfl, by omega, by omega, fun D hD => ?_⟩
      refine lc_range (lo := 0) (fun i H' => Wd K G0 H H' [] [(D, .lst (List.replicate i (.bl true)))] (.all ys ds :: .all xs ds :: [])) ((w.newM hD (.lst [])).sub (in2 m0 m2)) (fun i H' hi w => ?_) (fun H' w => ?_)
      · have hi : i < ys.length := by omega
        obtain ⟨vi, hvi⟩ : ∃ z, xs[i]? = some z := ⟨xs[i]'(by omega), List.getElem?_eq_getElem (by omega)⟩
        obtain ⟨ui, hui⟩ : ∃ z, ys[i]? = some z := ⟨ys[i]'(by omega), List.getElem?_eq_getElem (by omega)⟩
        have sv' := w.seq0 sv
        have su' := w.seq0 su
        obtain ⟨d1, e1, w⟩ := w.item m1 hvi
        obtain ⟨d2, e2, w⟩ := w.item m1 hui
        rw [e1] at e2
        cases e2
        refine ⟨rfl, yesL ⟨_, rfl, _, rfl, .inl ⟨_, xs, _, _, rfl, rfl, sv', atI_0 hvi, ?_⟩⟩⟩
        refine ⟨_, rfl, _, rfl, .inl ⟨_, ys, _, _, rfl, rfl, su', atI_0 hui, ?_⟩⟩
        refine Pro.call0 (r := pr__law_is m K) (vi, ui, d1) w rfl (List.all_eq_true.mp hall d1 (List.mem_of_getElem? e1)) (in2 m1 m0) fun H1 _ w _ _ => ?_
        refine ⟨_, w.at_ m0, by rw [List.length_replicate]; exact Nat.lt_of_lt_of_le (show i < 100000 by omega) (by decide), ?_⟩
        have w := w.put (o' := .lst (List.replicate (i + 1) (.bl true)))
        rw [List.replicate_succ'] at w ⊢
        exact w.sub (in2 m2 m3)
      · refine ⟨_, List.replicate ys.length true, rfl, ?_, ?_⟩
        · rw [List.map_replicate]
          exact SqL.of (w.at_ m0)
        · have e : (List.replicate ys.length true).all id = true := by simp
          rw [e]
          exact k _ _ _ () w in0 trivial rfl
    | tuple ds =>
      cases n with
      | zero => cases hp
      | succ m =>
      obtain ⟨hlen, hall⟩ := He.ba (show (decide (ds.length < 100000) && ds.all (isD m)) = true from hp)
      have hlen := of_decide_eq_true hlen
      obtain ⟨va, xs, e1, sv, lv, w⟩ := w.tup m0
      obtain ⟨ua, ys, e2, su, lu, w⟩ := w.tup m3
      dsimp only at e1 e2
      subst e1 e2
      have tv : TyX K H (.ref va) (.type "tuple") := tyx hv
      have tu : TyX K H (.ref ua) (.type "tuple") := tyx hu
      refine ⟨_, rfl, rfl, _, rfl, iteN nnRef ?_⟩
      refine ⟨_, rfl, _, _, _, _, false, rfl, .ty _, tu, kit_ty (by decide +kernel), _, rfl, iteN ff ?_⟩
      refine ⟨_, rfl, _, _, _, _, false, rfl, .ty _, tu, kit_ty (by decide +kernel), _, rfl, iteN ff ?_⟩
      refine ⟨_, rfl, _, _, _, _, false, rfl, .ty _, tu, kit_ty (by decide +kernel), _, rfl, iteN ff ?_⟩
      refine ⟨_, rfl, _, _, _, _, true, rfl, .ty _, tu, kit_ty (by decide +kernel), _, rfl, iteP rfl ?_⟩
      refine ⟨_, rfl, _, _, _, _, true, rfl, .ty _, tv, kit_ty (by decide +kernel), _, rfl, ?_⟩
      refine iteN ff ⟨_, rfl, _, _, _, _, false, rfl, .ty _, tu, kit_ty (by decide +kernel), _, rfl, iteN ff ?_⟩
      refine iteN ff ?_
      refine ⟨_, rfl, _, xs.length, rfl, .inr ⟨_, sv, rfl⟩, _, rfl, _, ys.length, rfl, .inr ⟨_, su, rfl⟩, rfl, _, rfl, iteP (decide_eq_true (by rw [lv, lu])) ?_⟩
      refine ⟨_, rfl, _, ys.length, rfl, .inr ⟨_, su, rfl⟩, _, rfl, by omega, by omega, fun D hD => ?_⟩
      refine lc_range (lo := 0) (fun i H' => Wd K G0 H H' [] [(D, .lst (List.replicate i (.bl true)))] (.all ys ds :: .all xs ds :: [])) ((w.newM hD (.lst [])).sub (in2 m0 m2)) (fun i H' hi w => ?_) (fun H' w => ?_)
      · have hi : i < ys.length := by omega
        obtain ⟨vi, hvi⟩ : ∃ z, xs[i]? = some z := ⟨xs[i]'(by omega), List.getElem?_eq_getElem (by omega)⟩
        obtain ⟨ui, hui⟩ : ∃ z, ys[i]? = some z := ⟨ys[i]'(by omega), List.getElem?_eq_getElem (by omega)⟩
        have sv' := w.sqt0 sv
        have su' := w.sqt0 su
        obtain ⟨d1, e1, w⟩ := w.item m1 hvi
        obtain ⟨d2, e2, w⟩ := w.item m1 hui
        rw [e1] at e2
        cases e2
        refine ⟨rfl, yesL ⟨_, rfl, _, rfl, .inr (.inl ⟨_, xs, _, _, rfl, rfl, sv', atI_0 hvi, ?_⟩)⟩⟩
        refine ⟨_, rfl, _, rfl, .inr (.inl ⟨_, ys, _, _, rfl, rfl, su', atI_0 hui, ?_⟩)⟩
        refine Pro.call0 (r := pr__law_is m K) (vi, ui, d1) w rfl (List.all_eq_true.mp hall d1 (List.mem_of_getElem? e1)) (in2 m1 m0) fun H1 _ w _ _ => ?_
        refine ⟨_, w.at_ m0, by rw [List.length_replicate]; exact Nat.lt_of_lt_of_le (show i < 100000 by omega) (by decide), ?_⟩
        have w := w.put (o' := .lst (List.replicate (i + 1) (.bl true)))
        rw [List.replicate_succ'] at w ⊢
        exact w.sub (in2 m2 m3)
      · refine ⟨_, List.replicate ys.length true, rfl, ?_, ?_⟩
        · rw [List.map_replicate]
          exact SqL.of (w.at_ m0)
        · have e : (List.replicate ys.length true).all id = true := by simp
          rw [e]
          exact k _ _ _ () w in0 trivial rfl
theorem ok__law_is {P : Program} {w0 : World} {K : PySem.W.Frag} {mg : Str → Option Value} {base : Heap} (T : Txt K mg) : FnOk P w0 K mg base CX0 3 (He.ga K "_law_is") (fdA K (He.ga K "_law_is")) ["told", "due"] ((pr__law_is 2 K).sp K) := ok__law_is_n T 3

end K66

namespace K66
open PySem PySem.Spec PyProof.Rows L2 KX
def eRow (r : Row) : PyData := .tuple [.int r.1, .int r.2]
def eRows (rs : List Row) : List PyData := rs.map eRow
/-- an object of Rule whose fields do not hide the class's constants -/
def IsRule0 (K : PySem.W.Frag) (o : HO) : Prop := ∃ dx fs, o = .ins (He.ga K "Rule") dx fs ∧ fs.lookup ("MOST_ROWS" : Str) = none ∧ fs.lookup ("MOST_PERIOD" : Str) = none ∧ fs.lookup ("MOST_COUNT" : Str) = none
/-- a rule that stands: its rows -/
structure Rg where
  r : Addr
  dx : Addr
  a : Addr
  rs : List Row
def Rg.need (K : PySem.W.Frag) (g : Rg) : List Pf := [.obj g.r (.ins (He.ga K "Rule") g.dx [("rows", .ref g.a)]), .one (.ref g.a) (.tuple (eRows g.rs))]
end K66
namespace K66
open PySem PySem.Spec PyProof.Rows L2 KX
def pr_Rule__may_follow (K : PySem.W.Frag) : Pro (Addr × Addr × List V × List Row × Int × Int) Unit := { args := fun x => [.ref x.1, .ref x.2.1, .int x.2.2.2.2.1, .int x.2.2.2.2.2], need := fun x => [.all x.2.2.1 (eRows x.2.2.2.1)], see := fun x => [(x.1, IsRule0 K), (x.2.1, fun o => o = .lst x.2.2.1)], pre := fun x => ∀ r ∈ x.2.2.2.1, 0 < r.1, val := fun x _ => .bl (mayF x.2.2.2.1 x.2.2.2.2.1 x.2.2.2.2.2) }
theorem sc_Rule__may_follow : FnScope ["self", "rows", "period", "count", "above"] ["self", "rows", "period", "count"] (defScope s_Rule__may_follow) := ⟨rfl, rfl, rfl, by decide +kernel, rfl, by decide +kernel, by decide +kernel⟩
theorem bi_Rule__may_follow {K : PySem.W.Frag} {mg : Str → Option Value} (T : Txt K mg) : Binds K (fdA K (He.ma K (He.ga K "Rule") "_may_follow")) ["self", "rows", "period", "count"] [] := T.F_Rule__may_follow.bindsN fun _ _ _ _ _ _ us hl => match us, hl with | [_, _, _, _], _ => rfl
theorem ok_Rule__may_follow {P : Program} {w0 : World} {K : PySem.W.Frag} {mg : Str → Option Value} {base : Heap} (T : Txt K mg) : FnOk P w0 K mg base CX0 1 (He.ma K (He.ga K "Rule") "_may_follow") (fdA K (He.ma K (He.ga K "Rule") "_may_follow")) ["self", "rows", "period", "count"] ((pr_Rule__may_follow K).sp K) := by
  refine T.F_Rule__may_follow.ok sc_Rule__may_follow (fun vs H Q E h => by
    obtain ⟨x, e⟩ := Pro.len h
    rw [e]
    rfl) (fun cdv A outer s0 H vs Q E hr h => ?_)
  obtain ⟨x, G0, rfl, hp, see, w, k⟩ := Pro.use h
  refine ⟨_, PSs.nox (pss_cons (ps_if (PW.pt (pw_or (pt_cmpR op_ge (pe_callB call_len_seq (by rfl) T.b_len PySem.boot_len (pa_cons (pv 1) pa_nil)) (pe_con (pv 0) rfl) (nomark _)) (pw_or (pt_cmpR op_lt (pv 2) pe_int (nomark _)) (pw_or1 (pt_cmpR op_gt (pv 2) (pe_con (pv 0) rfl) (nomark _))))))
        (pss_one (ps_ret pe_bl))
        pss_nil)
      (pss_cons (ps_if (pt_cmpR op_gt (pe_callB call_len_seq (by rfl) T.b_len PySem.boot_len (pa_cons (pv 1) pa_nil)) pe_int (nomark _))
        (pss_cons (ps_set (i := 4) sc_Rule__may_follow.nd rfl (by first | exact Or.inl rfl | exact Or.inr rfl) (pe_ix ix_tup (pe_ix ix_list (pv 1) (pe_un un_neg pe_int) (fun _ _ => rfl)) pe_int (fun _ _ => rfl)))
        (pss_one (ps_if (PW.pt (pw_or (pt_cmpR op_le (pv 2) (pv 4) (nomark _)) (pw_or1 (pt_cmpR op_ne (pe_op op_mod (pv 2) (pv 4)) pe_int (nomark _)))))
          (pss_one (ps_ret pe_bl))
          pss_nil)))
        pss_nil)
      (pss_one (ps_ret (pe_chain op_le op_le pe_int (pv 3) (pe_con (pv 0) rfl)))))), ?_⟩
  obtain ⟨self, l, vs, good, p, c⟩ := x
  obtain ⟨_, hself, dx, fs, rfl, f1, f2, f3⟩ := see _ m0
  obtain ⟨_, hl, rfl⟩ := see _ m1
  obtain ⟨u1, c1⟩ := T.co_Rule_MOST_ROWS
  obtain ⟨u2, c2⟩ := T.co_Rule_MOST_PERIOD
  obtain ⟨u3, c3⟩ := T.co_Rule_MOST_COUNT
  have fin : Q (.bl (mayF good p c)) H := k _ [] _ () w in0 trivial rfl
  have hlen : vs.length = good.length := w.lenM m0
  have no : mayF good p c = false → Q (.bl false) H := fun e => by
    rw [e] at fin
    exact fin
  have last : mayF good p c = (decide (1 ≤ c) && decide (c ≤ 8)) → ∀ σ : L2.St, σ[0]? = some (some (.ref self)) → σ[3]? = some (some (.int c)) → tRet (tChain (rI0 fun i j => .bl (decide (i ≤ j))) (rI0 fun i j => .bl (decide (i ≤ j))) (tC (.int 1)) (tVar 3) (tCon K (tVar 0) ("MOST_COUNT" : Str))) { nx := fun _ H' => Q .non H', rt := Q } σ H := fun e σ e1 e2 => by
    rw [e] at fin
    refine ⟨_, e2, _, _, rfl, rfl, _, rfl, ?_⟩
    by_cases h : (1 : Int) ≤ c
    · refine iteP (decide_eq_true h) ⟨_, e1, _, _, _, _, _, _, rfl, hself, T.cl_Rule, c3, f3, _, _, rfl, rfl, ?_⟩
      rw [decide_eq_true h] at fin
      exact fin
    · refine iteN (by simpa using h) ?_
      rw [decide_eq_false h] at fin
      exact fin
  refine ⟨_, rfl, _, _, rfl, .inl (SqL.of hl), _, rfl, _, _, _, _, _, _, rfl, hself, T.cl_Rule, c1, f1, _, _, rfl, rfl, _, rfl, ite2 (fun h => ?_) (fun h => ?_)⟩
  · have h := of_decide_eq_true h
    rw [hlen] at h
    refine iteP rfl (no ?_)
    unfold mayF
    rw [if_pos h]
  have h1 : ¬ (4 : Int) ≤ good.length := fun z => h (decide_eq_true (by rw [hlen]; exact z))
  refine ⟨_, rfl, _, _, rfl, rfl, _, rfl, ite2 (fun h => ?_) (fun h => ?_)⟩
  · refine iteP rfl (no ?_)
    unfold mayF
    rw [if_neg h1, if_pos (of_decide_eq_true h)]
  have h2 : ¬ p < 1 := fun z => h (decide_eq_true z)
  refine ⟨_, rfl, _, rfl, _, _, _, _, _, _, rfl, hself, T.cl_Rule, c2, f2, _, _, rfl, rfl, _, rfl, ?_⟩
  by_cases h3 : (200 : Int) < p
  · refine iteP (decide_eq_true h3) (no ?_)
    unfold mayF
    rw [if_neg h1, if_neg h2, if_pos h3]
  refine iteN (by simpa using h3) ?_
  refine ⟨_, rfl, _, _, rfl, .inl (SqL.of hl), _, _, rfl, rfl, _, rfl, ite2 (fun h => ?_) (fun h => ?_)⟩
  · have h4 : (0 : Int) < good.length := by
      rw [← hlen]
      exact of_decide_eq_true h
    have hj : good.length - 1 < vs.length := by omega
    obtain ⟨v, hv⟩ : ∃ v, vs[good.length - 1]? = some v := ⟨vs[good.length - 1], List.getElem?_eq_getElem hj⟩
    obtain ⟨r, hr, w⟩ := w.itemM (f := eRow) m0 hv
    obtain ⟨t, rfl, ht⟩ := w.ii m0
    have hg : good.getLastD (0, 0) = r := by
      rw [List.getLastD_eq_getLast?, List.getLast?_eq_getElem?, hr]
      rfl
    have hr0 := hp r (List.mem_of_getElem? hr)
    have hx : atI vs (-1) = some (.ref t) := by
      unfold atI ixN
      rw [if_neg (by decide), if_pos (by omega)]
      show vs[((-1 : Int) + vs.length).toNat]? = _
      rw [← hv, show ((-1 : Int) + vs.length).toNat = good.length - 1 by omega]
    refine ⟨_, rfl, _, rfl, _, _, _, _, rfl, rfl, SqL.of hl, hx, _, _, _, _, rfl, rfl, ht, rfl, ?_⟩
    refine ⟨_, rfl, _, rfl, _, _, rfl, rfl, _, rfl, ite2 (fun h => ?_) (fun h => ?_)⟩
    · refine iteP rfl (no ?_)
      unfold mayF
      rw [if_neg h1, if_neg h2, if_neg h3, if_pos h4, hg, if_pos (of_decide_eq_true h)]
    have h5 : ¬ p ≤ r.1 := fun z => h (decide_eq_true z)
    refine ⟨_, rfl, _, rfl, _, _, rfl, rfl, hr0, rfl, _, rfl, ?_⟩
    by_cases h6 : p % r.1 = 0
    · refine iteN (show ¬ (!decide (V.int (p % r.1) = V.int 0)) = true by rw [h6]; decide) ?_
      refine last ?_ _ rfl rfl
      unfold mayF
      rw [if_neg h1, if_neg h2, if_neg h3, if_pos h4, hg, if_neg h5, if_neg (by simpa using h6)]
    · refine iteP (show (!decide (V.int (p % r.1) = V.int 0)) = true by simpa using h6) (no ?_)
      unfold mayF
      rw [if_neg h1, if_neg h2, if_neg h3, if_pos h4, hg, if_neg h5, if_pos h6]
  · refine last ?_ _ rfl rfl
    unfold mayF
    rw [if_neg h1, if_neg h2, if_neg h3, if_neg (fun z => h (decide_eq_true (by rw [hlen]; exact z)))]
end K66
namespace K66
open PySem PySem.Spec PyProof.Rows L2 KX
def pr_Rule___init__ (K : PySem.W.Frag) : Pro (Addr × Addr × Addr × List Row) Addr := { args := fun x => [.ref x.1, .ref x.2.2.1], need := fun x => [.one (.ref x.2.2.1) (.list (eRows x.2.2.2))], ext := fun x => [(x.1, fun o => o = .ins (He.ga K "Rule") x.2.1 [])], pre := fun x => RuleOk x.2.2.2, val := fun _ _ => .non, ext2 := fun x y => [(x.1, fun o => o = .ins (He.ga K "Rule") x.2.1 [("rows", .ref y)])], gives := fun x y => [.one (.ref y) (.tuple (eRows x.2.2.2))] }
theorem sc_Rule___init__ : FnScope ["self", "rows", "good", "period", "count"] ["self", "rows"] (defScope s_Rule___init__) := ⟨rfl, rfl, rfl, by decide +kernel, rfl, by decide +kernel, by decide +kernel⟩
theorem bi_Rule___init__ {K : PySem.W.Frag} {mg : Str → Option Value} (T : Txt K mg) : Binds K (fdA K (He.ma K (He.ga K "Rule") "__init__")) ["self", "rows"] [] := T.F_Rule___init__.bindsN fun _ _ _ _ _ _ us hl => match us, hl with | [_, _], _ => rfl
theorem ok_Rule___init__ {P : Program} {w0 : World} {K : PySem.W.Frag} {mg : Str → Option Value} {base : Heap} (T : Txt K mg) : FnOk P w0 K mg base CX0 2 (He.ma K (He.ga K "Rule") "__init__") (fdA K (He.ma K (He.ga K "Rule") "__init__")) ["self", "rows"] ((pr_Rule___init__ K).sp K) := by
  refine T.F_Rule___init__.ok sc_Rule___init__ (fun vs H Q E h => by
    obtain ⟨x, e⟩ := Pro.len h
    rw [e]
    rfl) (fun cdv A outer s0 H vs Q E hr h => ?_)
  obtain ⟨x, G0, rfl, hp, see, w, k⟩ := Pro.use h
  refine ⟨_, PSs.nox (pss_cons (ps_set (i := 2) sc_Rule___init__.nd rfl (by first | exact Or.inl rfl | exact Or.inr rfl) (pe_lst pa_nil))
      (pss_cons (ps_for PassesOwn.never rfl (pi_list (pv 1)) (pg_tup rfl (pgs_cons (pg_name (i := 3) sc_Rule___init__.nd rfl (by first | exact Or.inl rfl | exact Or.inr rfl)) (pgs_cons (pg_name (i := 4) sc_Rule___init__.nd rfl (by first | exact Or.inl rfl | exact Or.inr rfl)) pgs_nil)))
        (pss_cons (ps_if (pt_not (pt_val (pe_meth (pv 0) T.cl_Rule T.me_Rule__may_follow (ok_Rule__may_follow T) (hr.mono (by decide)) (bi_Rule__may_follow T) .nil pass0 (pa_cons (pv 2) (pa_cons (pv 3) (pa_cons (pv 4) pa_nil))))))
          pss_never
          pss_nil)
        (pss_one (ps_expr (pe_bm PySem.F.plainAttrs_list PySem.F.slot_list_append PySem.F.type_list_append mt_append (pv 2) (pa_cons (pe_tup (pa_cons (pv 3) (pa_cons (pv 4) pa_nil))) pa_nil))))))
      (pss_cons (ps_if (pt_cmpR op_eq (pe_callB call_len_seq (by rfl) T.b_len PySem.boot_len (pa_cons (pv 2) pa_nil)) pe_int (nomark _))
        pss_never
        pss_nil)
      (pss_one (ps_fld (pv 0) (pe_callTy call_tuple_of (by rfl) T.b_tuple (by decide +kernel) (pa_cons (pv 2) pa_nil)) rfl))))), ?_⟩
  obtain ⟨self, dx, a, rs⟩ := x
  have hR : RuleOk rs := hp
  obtain ⟨a', xs, e1, hs, hl, w⟩ := w.lst m0
  cases e1
  refine ⟨Nat.zero_le _, fun l hl => ?_⟩
  have w := w.newM hl (.lst [])
  refine ⟨_, rfl, a, rfl, ⟨_, w.sq m1⟩, ?_⟩
  refine for_list (K := K) (a := a) (xs := xs) (fun i σ H' => ∃ vs p c, σ = [some (.ref self), some (.ref a), some (.ref l), p, c] ∧ Wd K G0 H H' [(self, fun o => o = .ins (He.ga K "Rule") dx [])] [(l, .lst vs)] [.all vs (eRows (rs.take i)), .all xs (eRows rs), .sq a xs])
    ⟨[], none, none, rfl, w.nil.sub (in3 m0 m1 m2)⟩ (fun i σ H' _ ⟨_, _, _, _, w⟩ => w.sq m2) ?_ ?_
  · rintro i y σ H' hi ⟨vs, p, c, rfl, w⟩
    obtain ⟨r, hr1, w⟩ := w.itemM (f := eRow) m1 hi
    obtain ⟨t, rfl, ht⟩ := w.ii m0
    have hm := hR.may hr1
    refine ⟨t, _, rfl, ht, rfl, _, _, rfl, _, _, rfl, rfl, ?_⟩
    obtain ⟨_, hself, rfl⟩ := w.atX m0
    refine ⟨_, rfl, _, _, _, rfl, hself, rfl, _, rfl, _, rfl, _, rfl, ?_⟩
    refine Pro.call0 (r := pr_Rule__may_follow K) (self, l, vs, rs.take i, r.1, r.2) w rfl (fun q hq => by have := hR.row q (List.mem_of_mem_take hq); omega) (in1 m1) (fun H1 _ w _ kp => ?_) (stand2 hself ⟨_, _, rfl, rfl, rfl, rfl⟩ (w.at_ m0) rfl)
    refine ⟨_, rfl, iteN (by show ¬ (!mayF (rs.take i) r.1 r.2) = true; rw [hm]; decide) ?_⟩
    have hl1 := w.at_ m0
    refine ⟨_, rfl, .inl ⟨rfl, _, SqL.of hl1⟩, _, rfl, _, rfl, by show 2 ≤ sizeLine; decide, fun t2 ht2 => ?_⟩
    have hvl : vs.length = (rs.take i).length := w.lenM m1
    have hil : (rs.take i).length ≤ 4 := Nat.le_trans (List.length_take_le' ..) hR.len
    have w := (w.ofInts [r.1, r.2]).newT ht2 m0
    refine ⟨l, vs, _, rfl, rfl, w.at_ m0, Nat.lt_of_le_of_lt (show vs.length ≤ 4 by omega) (by decide), ?_⟩
    have w := (w.snoc m3 m0).put (o' := .lst (vs ++ [.ref t2]))
    refine ⟨vs ++ [.ref t2], _, _, rfl, ?_⟩
    have e : eRows (rs.take (i + 1)) = eRows (rs.take i) ++ [eRow r] := by
      unfold eRows
      rw [List.take_succ, hr1, List.map_append]
      rfl
    rw [e]
    exact w.sub (in3 m0 m5 m6)
  · rintro σ H' ⟨vs, p, c, rfl, w⟩
    have hlx : xs.length = rs.length := w.lenM m1
    have hvl := w.lenM m0
    rw [hlx, List.take_length] at hvl w
    have hl1 := w.at_ m0
    have hne : 0 < rs.length := List.length_pos_iff.mpr hR.ne
    refine ⟨_, rfl, _, _, rfl, .inl (SqL.of hl1), rfl, _, rfl, iteN (fun z => ?_) ?_⟩
    · have q := of_decide_eq_true z
      injection q with q
      omega
    refine ⟨_, rfl, _, _, rfl, .inl ⟨SqL.of hl1, fun p hp => ?_⟩⟩
    have w := w.newT hp m0
    obtain ⟨_, hself, rfl⟩ := w.atX m0
    refine ⟨_, rfl, _, _, _, _, rfl, hself, T.cl_Rule, T.no_Rule_rows, by show 0 < 1000; decide, ?_⟩
    exact k _ _ _ p (w.putY (P' := fun o => o = .ins (He.ga K "Rule") dx [("rows", .ref p)]) rfl) (in1 m0) trivial rfl
end K66
namespace K66
open PySem PySem.Spec PyProof.Rows L2 KX
def pr_Rule_period (K : PySem.W.Frag) : Pro (Rg × Row) Unit := { args := fun x => [.ref x.1.r], need := fun x => x.1.need K, pre := fun x => x.1.rs.getLast? = some x.2, val := fun x _ => .int x.2.1 }
theorem sc_Rule_period : FnScope ["self"] ["self"] (defScope s_Rule_period) := ⟨rfl, rfl, rfl, by decide +kernel, rfl, by decide +kernel, by decide +kernel⟩
theorem bi_Rule_period {K : PySem.W.Frag} {mg : Str → Option Value} (T : Txt K mg) : Binds K (fdA K (propG K (He.ga K "Rule") "period")) ["self"] [] := T.F_Rule_period.bindsN fun _ _ _ _ _ _ us hl => match us, hl with | [_], _ => rfl
theorem ok_Rule_period {P : Program} {w0 : World} {K : PySem.W.Frag} {mg : Str → Option Value} {base : Heap} (T : Txt K mg) : FnOk P w0 K mg base CX0 1 (propG K (He.ga K "Rule") "period") (fdA K (propG K (He.ga K "Rule") "period")) ["self"] ((pr_Rule_period K).sp K) := by
  refine T.F_Rule_period.ok sc_Rule_period (fun vs H Q E h => by
    obtain ⟨x, e⟩ := Pro.len h
    rw [e]
    rfl) (fun cdv A outer s0 H vs Q E hr h => ?_)
  obtain ⟨x, G0, rfl, hp, see, w, k⟩ := Pro.use h
  refine ⟨_, PSs.nox (pss_one (ps_ret (pe_ix ix_tup (pe_ix ix_tup (pe_fld (pv 0) rfl) (pe_un un_neg pe_int) (fun _ _ => rfl)) pe_int (fun _ _ => rfl)))), ?_⟩
  obtain ⟨⟨r, dx, a, rs⟩, q⟩ := x
  have ho := w.atP m0
  obtain ⟨a', vs, e1, hs, hl, w⟩ := w.tup m1
  cases e1
  have hl : vs.length = rs.length := w.lenM m0
  have hq : rs.getLast? = some q := hp
  rw [List.getLast?_eq_getElem?] at hq
  have hn : rs.length - 1 < rs.length := (List.getElem?_eq_some_iff.mp hq).1
  obtain ⟨v, hv⟩ : ∃ v, vs[rs.length - 1]? = some v := ⟨vs[rs.length - 1]'(by omega), List.getElem?_eq_getElem (by omega)⟩
  obtain ⟨q', hq', w⟩ := w.itemM (f := eRow) m0 hv
  rw [hq] at hq'
  cases hq'
  obtain ⟨t, rfl, ht⟩ := w.ii m0
  refine ⟨_, rfl, _, _, _, _, _, rfl, ho, T.cl_Rule, T.no_Rule_rows, rfl, _, rfl, _, _, _, _, rfl, rfl, hs, atI_end hv hl, _, _, _, _, rfl, rfl, ht, rfl, ?_⟩
  exact k _ [] _ () w in0 trivial rfl
end K66
namespace K66
open PySem PySem.Spec PyProof.Rows L2 KX
def pr_Rule_settled (K : PySem.W.Frag) : Pro Rg Int := { args := fun x => [.ref x.r], need := fun x => x.need K, pre := fun x => RuleOk x.rs, val := fun _ m => .int m, post := fun x m => IsMax (prods x.rs) m }
theorem sc_Rule_settled : FnScope ["self", "period", "count"] ["self"] (defScope s_Rule_settled) := ⟨rfl, rfl, rfl, by decide +kernel, rfl, by decide +kernel, by decide +kernel⟩
theorem bi_Rule_settled {K : PySem.W.Frag} {mg : Str → Option Value} (T : Txt K mg) : Binds K (fdA K (propG K (He.ga K "Rule") "settled")) ["self"] [] := T.F_Rule_settled.bindsN fun _ _ _ _ _ _ us hl => match us, hl with | [_], _ => rfl
theorem ok_Rule_settled {P : Program} {w0 : World} {K : PySem.W.Frag} {mg : Str → Option Value} {base : Heap} (T : Txt K mg) : FnOk P w0 K mg base CX0 1 (propG K (He.ga K "Rule") "settled") (fdA K (propG K (He.ga K "Rule") "settled")) ["self"] ((pr_Rule_settled K).sp K) := by
  refine T.F_Rule_settled.ok sc_Rule_settled (fun vs H Q E h => by
    obtain ⟨x, e⟩ := Pro.len h
    rw [e]
    rfl) (fun cdv A outer s0 H vs Q E hr h => ?_)
  obtain ⟨x, G0, rfl, hp, see, w, k⟩ := Pro.use h
  refine ⟨_, PSs.nox (pss_one (ps_ret (pe_callB (cr_max rfl) (by rfl) T.b_max (by decide +kernel) (pa_cons (pe_lc (own := [("period", 1), ("count", 2)]) (g := (gTup K 2 (gCons (gName 1) (gCons (gName 2) gNil)))) rfl sc_Rule_settled.nd (pi_tup (pe_fld (pv 0) rfl)) (blkOk_by (N := ["self", "period", "count"]) (sc := defScope s_Rule_settled) (by decide +kernel)) (fun _ _ _ _ _ => (pg_tup rfl (pgs_cons (pg_name (i := 1) sc_Rule_settled.nd rfl (by first | exact Or.inl rfl | exact Or.inr rfl)) (pgs_cons (pg_name (i := 2) sc_Rule_settled.nd rfl (by first | exact Or.inl rfl | exact Or.inr rfl)) pgs_nil)))) (fun _ _ _ _ _ => pts_nil) (fun _ _ _ _ _ => (pe_op op_mul (pv 1) (pv 2)))) pa_nil)))), ?_⟩
  obtain ⟨r, dx, a, rs⟩ := x
  have hR : RuleOk rs := hp
  have ho := w.atP m0
  obtain ⟨a', vs, e1, hs, hl, w⟩ := w.tup m1
  cases e1
  have hl : vs.length = rs.length := w.lenM m0
  refine ⟨_, rfl, _, _, _, _, _, rfl, ho, T.cl_Rule, T.no_Rule_rows, rfl, a, rfl, ⟨_, hs⟩, fun D hD => ?_⟩
  refine lc_tup (K := K) (a := a) (xs := vs) (fun i H' => Wd K G0 H H' [] [(D, .lst ((prods (rs.take i)).map V.int))] [.all vs (eRows rs), .st a vs]) ((w.newM hD (.lst [])).sub (in2 m0 m1)) (fun i H' _ w => w.st m1) (fun i y H' hi w => ?_) (fun H' w => ?_)
  · obtain ⟨q, hq, w⟩ := w.itemM (f := eRow) m0 hi
    obtain ⟨t, rfl, ht⟩ := w.ii m0
    have hr := hR.row q (List.mem_of_getElem? hq)
    refine ⟨t, _, rfl, ht, rfl, _, _, rfl, _, _, rfl, rfl, rfl, yesL ⟨_, rfl, _, rfl, _, _, rfl, rfl, .inl ⟨by omega, by omega⟩, ?_⟩⟩
    have hil : (rs.take i).length ≤ 4 := Nat.le_trans (List.length_take_le' ..) hR.len
    refine ⟨_, w.at_ m0, Nat.lt_of_le_of_lt (show _ ≤ 4 by rw [List.length_map]; unfold prods; rw [List.length_map]; exact hil) (by decide), ?_⟩
    have w := w.put (o' := .lst ((prods (rs.take i)).map V.int ++ [.int (q.1 * q.2)]))
    have e : (prods (rs.take (i + 1))).map V.int = (prods (rs.take i)).map V.int ++ [.int (q.1 * q.2)] := by
      unfold prods
      rw [List.take_succ, hq]
      simp
    rw [e]
    exact w.sub (in2 m1 m2)
  · rw [hl, List.take_length] at w
    refine ⟨D, prods rs, rfl, SqL.of (w.at_ m0), by unfold prods; rw [List.length_map]; exact List.length_pos_iff.mpr hR.ne, fun m hm hle => ?_⟩
    exact k _ _ _ m w in0 ⟨hm, hle⟩ rfl
end K66
namespace K66
open PySem PySem.Spec PyProof.Rows L2 KX
/-- the dict of the ages found so far -/
def kvT (ks : List Int) : List (L2.Key × V) := ks.map fun k => (Sum.inl k, V.bl true)
theorem kvT_put (ks : List Int) (a : Int) : putK (kvT ks) (Sum.inl a) (.bl true) = kvT (if a ∈ ks then ks else ks ++ [a]) := by
  have e : ((kvT ks).any fun kv => decide (kv.1 = (Sum.inl a : L2.Key))) = decide (a ∈ ks) := by
    unfold kvT
    rw [List.any_map, Bool.eq_iff_iff, List.any_eq_true, decide_eq_true_eq]
    constructor
    · rintro ⟨k, hk, h⟩
      have h := of_decide_eq_true h
      injection h with h
      rw [← h]
      exact hk
    · exact fun h => ⟨a, h, decide_eq_true rfl⟩
  unfold putK
  rw [e]
  by_cases h : a ∈ ks
  · rw [if_pos (decide_eq_true h), if_pos h]
    unfold kvT
    rw [List.map_map]
    refine List.map_congr_left fun k _ => ?_
    show (if (Sum.inl k : L2.Key) = Sum.inl a then ((Sum.inl k : L2.Key), V.bl true) else ((Sum.inl k : L2.Key), V.bl true)) = _
    split <;> rfl
  · rw [if_neg (fun z => h (of_decide_eq_true z)), if_neg h]
    unfold kvT
    rw [List.map_append]
    rfl
theorem nodup_add {ks : List Int} {a : Int} (h : ks.Nodup) : (if a ∈ ks then ks else ks ++ [a]).Nodup := by
  by_cases e : a ∈ ks
  · rw [if_pos e]
    exact h
  · rw [if_neg e]
    refine List.nodup_append.mpr ⟨h, by simp, fun x hx y hy e2 => ?_⟩
    rw [List.mem_singleton] at hy
    rw [e2, hy] at hx
    exact e hx
theorem mem_add {ks : List Int} {a b : Int} : b ∈ (if a ∈ ks then ks else ks ++ [a]) ↔ b ∈ ks ∨ b = a := by
  by_cases e : a ∈ ks
  · rw [if_pos e]
    constructor
    · exact .inl
    · rintro (h | rfl)
      · exact h
      · exact e
  · rw [if_neg e, List.mem_append, List.mem_singleton]
theorem len_add {ks : List Int} {a : Int} : (if a ∈ ks then ks else ks ++ [a]).length ≤ ks.length + 1 := by
  split
  · omega
  · rw [List.length_append]
    exact Nat.le_refl _
theorem diffs_snoc : ∀ (l : List Int) (b a : Int), diffs b (l ++ [a]) = diffs b l ++ [a - l.getLastD b]
  | [], b, a => rfl
  | x :: l, b, a => by
    show (x - b) :: diffs x (l ++ [a]) = (x - b) :: (diffs x l ++ [a - (x :: l).getLastD b])
    rw [diffs_snoc l x a]
    cases l <;> rfl
end K66
namespace K66
open PySem PySem.Spec PyProof.Rows L2 KX
def pr_Rule__ages (K : PySem.W.Frag) : Pro (Rg × Int) Addr := { args := fun x => [.ref x.1.r, .int x.2], need := fun x => x.1.need K, pre := fun x => RuleOk x.1.rs, val := fun _ y => .ref y, gives := fun x y => [.one (.ref y) (.list ((agesF x.1.rs x.2).map PyData.int))] }
theorem sc_Rule__ages : FnScope ["self", "tick", "found", "period", "count", "first", "k"] ["self", "tick"] (defScope s_Rule__ages) := ⟨rfl, rfl, rfl, by decide +kernel, rfl, by decide +kernel, by decide +kernel⟩
theorem bi_Rule__ages {K : PySem.W.Frag} {mg : Str → Option Value} (T : Txt K mg) : Binds K (fdA K (He.ma K (He.ga K "Rule") "_ages")) ["self", "tick"] [] := T.F_Rule__ages.bindsN fun _ _ _ _ _ _ us hl => match us, hl with | [_, _], _ => rfl
theorem ok_Rule__ages {P : Program} {w0 : World} {K : PySem.W.Frag} {mg : Str → Option Value} {base : Heap} (T : Txt K mg) : FnOk P w0 K mg base CX0 1 (He.ma K (He.ga K "Rule") "_ages") (fdA K (He.ma K (He.ga K "Rule") "_ages")) ["self", "tick"] ((pr_Rule__ages K).sp K) := by
  refine T.F_Rule__ages.ok sc_Rule__ages (fun vs H Q E h => by
    obtain ⟨x, e⟩ := Pro.len h
    rw [e]
    rfl) (fun cdv A outer s0 H vs Q E hr h => ?_)
  obtain ⟨x, G0, rfl, hp, see, w, k⟩ := Pro.use h
  refine ⟨_, PSs.nox (pss_cons (ps_set (i := 2) sc_Rule__ages.nd rfl (by first | exact Or.inl rfl | exact Or.inr rfl) pe_dnewK)
      (pss_cons (ps_for PassesOwn.never rfl (pi_tup (pe_fld (pv 0) rfl)) (pg_tup rfl (pgs_cons (pg_name (i := 3) sc_Rule__ages.nd rfl (by first | exact Or.inl rfl | exact Or.inr rfl)) (pgs_cons (pg_name (i := 4) sc_Rule__ages.nd rfl (by first | exact Or.inl rfl | exact Or.inr rfl)) pgs_nil)))
        (pss_cons (ps_set (i := 5) sc_Rule__ages.nd rfl (by first | exact Or.inl rfl | exact Or.inr rfl) (pe_op op_mod (pv 1) (pv 3)))
        (pss_one (ps_for PassesOwn.never rfl (pi_range1 (by rfl) T.b_range (pa_cons (pv 4) pa_nil)) (pg_name (i := 6) sc_Rule__ages.nd rfl (by first | exact Or.inl rfl | exact Or.inr rfl))
          (pss_one (ps_if (pt_cmpR op_le (pe_op op_add (pv 5) (pe_op op_mul (pv 6) (pv 3))) (pv 1) (nomark _))
            (pss_one (ps_dput (hu_of hr) (pv 2) (pe_op op_add (pv 5) (pe_op op_mul (pv 6) (pv 3))) pe_bl rfl))
            pss_nil))))))
      (pss_one (ps_ret (pe_callB (call_sortedDI rfl) (by rfl) T.b_sorted (by decide +kernel) (pa_cons (pv 2) pa_nil)))))), ?_⟩
  obtain ⟨⟨r, dx, a, rs⟩, tick⟩ := x
  have hR : RuleOk rs := hp
  refine fun d hd => ?_
  have w := w.newM hd (.dK [])
  have ho := w.atP m0
  obtain ⟨a', vs, e1, hs, hl, w⟩ := w.tup m1
  cases e1
  have hl : vs.length = rs.length := w.lenM m0
  refine ⟨_, rfl, _, _, _, _, _, rfl, ho, T.cl_Rule, T.no_Rule_rows, rfl, a, rfl, ⟨_, hs⟩, ?_⟩
  refine for_tup (K := K) (a := a) (xs := vs) (fun i σ H' => ∃ ks p c f k, σ = [some (.ref r), some (.int tick), some (.ref d), p, c, f, k] ∧ Wd K G0 H H' [] [(d, .dK (kvT ks))] [.all vs (eRows rs), .st a vs] ∧ ks.Nodup ∧ (∀ z, z ∈ ks ↔ AgeIn (rs.take i) tick z) ∧ ks.length ≤ 8 * i)
    ⟨[], none, none, none, none, rfl, w.sub (in2 m0 m1), List.nodup_nil, fun z => ⟨fun h => (nomatch h), fun ⟨q, h, _⟩ => (nomatch h)⟩, Nat.le_refl _⟩ (fun i σ H' _ ⟨_, _, _, _, _, _, w, _⟩ => w.st m1) ?_ ?_
  · rintro i y σ H' hi ⟨ks, p, c, f, k0, rfl, w, nd, mem, len⟩
    obtain ⟨q, hq, w⟩ := w.itemM (f := eRow) m0 hi
    obtain ⟨t, rfl, ht⟩ := w.ii m0
    have hr1 := hR.row q (List.mem_of_getElem? hq)
    have hi4 : i < 4 := Nat.lt_of_lt_of_le (List.getElem?_eq_some_iff.mp hq).1 hR.len
    refine ⟨t, _, rfl, ht, rfl, _, _, rfl, _, _, rfl, rfl, ?_⟩
    refine ⟨_, rfl, _, rfl, _, _, rfl, rfl, by show (0 : Int) < q.1; omega, ?_⟩
    refine ⟨_, rfl, q.2, rfl, by omega, by omega, ?_⟩
    refine for_range (lo := 0) (n := q.2.toNat) (fun j σ H' => ∃ ks k, σ = [some (.ref r), some (.int tick), some (.ref d), some (.int q.1), some (.int q.2), some (.int (tick % q.1)), k] ∧ Wd K G0 H H' [] [(d, .dK (kvT ks))] [.all vs (eRows rs), .st a vs] ∧ ks.Nodup ∧ (∀ z, z ∈ ks ↔ AgeIn (rs.take i) tick z ∨ ∃ m : Nat, m < j ∧ z = tick % q.1 + m * q.1 ∧ z ≤ tick) ∧ ks.length ≤ 8 * i + j)
      ⟨ks, k0, rfl, w.sub (in2 m1 m2), nd, fun z => by rw [mem z]; exact ⟨.inl, fun h => h.elim id fun ⟨m, h, _⟩ => absurd h (Nat.not_lt_zero _)⟩, len⟩ ?_ ?_
    · rintro j σ H' hj ⟨ks, k, rfl, w, nd, mem, len⟩
      have hj8 : j < 8 := by omega
      refine ⟨_, rfl, _, rfl, _, rfl, _, _, rfl, rfl, .inl ⟨by omega, by omega⟩, _, _, rfl, rfl, _, rfl, _, _, rfl, rfl, _, rfl, ite2 (fun h => ?_) (fun h => ?_)⟩
      · have h : tick % q.1 + (0 + (j : Int)) * q.1 ≤ tick := of_decide_eq_true h
        refine ⟨_, rfl, _, rfl, _, rfl, _, rfl, _, _, rfl, rfl, .inl ⟨by omega, by omega⟩, _, _, rfl, rfl, ?_⟩
        refine ⟨d, _, rfl, DPut.k (k := Sum.inl (tick % q.1 + (0 + (j : Int)) * q.1)) (w.at_ m0) (Nat.lt_of_le_of_lt (show _ ≤ 100 by unfold kvT; rw [List.length_map]; omega) (by decide)), ?_⟩
        rw [kvT_put]
        refine ⟨_, _, rfl, w.put, nodup_add nd, fun z => ?_, ?_⟩
        · rw [mem_add, mem z]
          rw [Int.zero_add] at h ⊢
          constructor
          · rintro ((h1 | ⟨m, h1, h2⟩) | h1)
            · exact .inl h1
            · exact .inr ⟨m, by omega, h2⟩
            · exact .inr ⟨j, by omega, h1, by rw [h1]; exact h⟩
          · rintro (h1 | ⟨m, h1, h2, h3⟩)
            · exact .inl (.inl h1)
            · rcases Nat.lt_succ_iff_lt_or_eq.mp h1 with h1 | h1
              · exact .inl (.inr ⟨m, h1, h2, h3⟩)
              · subst h1
                exact .inr h2
        · have := len_add (ks := ks) (a := tick % q.1 + (0 + (j : Int)) * q.1)
          omega
      · have h : ¬ tick % q.1 + (0 + (j : Int)) * q.1 ≤ tick := fun z => h (decide_eq_true z)
        rw [Int.zero_add] at h
        refine ⟨ks, _, rfl, w, nd, fun z => ?_, by omega⟩
        rw [mem z]
        constructor
        · rintro (h1 | ⟨m, h1, h2⟩)
          · exact .inl h1
          · exact .inr ⟨m, by omega, h2⟩
        · rintro (h1 | ⟨m, h1, h2, h3⟩)
          · exact .inl h1
          · rcases Nat.lt_succ_iff_lt_or_eq.mp h1 with h1 | h1
            · exact .inr ⟨m, h1, h2, h3⟩
            · subst h1
              exact absurd (by rw [← h2]; exact h3) h
    · rintro σ H' ⟨ks, k, rfl, w, nd, mem, len⟩
      refine ⟨ks, _, _, _, _, rfl, w, nd, fun z => ?_, by omega⟩
      rw [mem z, List.take_succ, hq]
      unfold AgeIn
      constructor
      · rintro (⟨q1, h1, h2⟩ | ⟨m, h1, h2, h3⟩)
        · exact ⟨q1, List.mem_append_left _ h1, h2⟩
        · exact ⟨q, List.mem_append_right _ (List.mem_singleton.mpr rfl), (ageBy_iff (by omega)).mpr ⟨m, by omega, h2, h3⟩⟩
      · rintro ⟨q1, h1, h2⟩
        rcases List.mem_append.mp h1 with h1 | h1
        · exact .inl ⟨q1, h1, h2⟩
        · have e : q1 = q := List.mem_singleton.mp h1
          subst e
          obtain ⟨m, h3, h4, h5⟩ := (ageBy_iff (by omega)).mp h2
          exact .inr ⟨m, by omega, h4, h5⟩
  · rintro σ H' ⟨ks, p, c, f, k0, rfl, w, nd, mem, len⟩
    have hl4 := hR.len
    rw [hl, List.take_length] at mem
    refine ⟨_, rfl, d, kvT ks, ks, rfl, .inl (w.at_ m0), by unfold kvT; rw [List.map_map]; rfl, by omega, fun ys p pm srt hp => ?_⟩
    have e : ys = agesF rs tick := by
      refine asc_unique ?_ (agesF_pw rs tick) fun z => ?_
      · refine (srt.and (pm.nodup_iff.mpr nd)).imp fun {x y} h => ?_
        have h1 := h.1
        have h2 := h.2
        omega
      · rw [pm.mem_iff, mem z, agesF_mem hR.row]
    subst e
    exact k _ _ _ p ((w.ofInts (agesF rs tick)).newL hp m0) (in1 m0) trivial rfl
end K66
namespace K66
open PySem PySem.Spec PyProof.Rows L2 KX
def pr_Rule_gaps (K : PySem.W.Frag) : Pro (Rg × Int) Addr := { args := fun x => [.ref x.1.r, .int x.2], need := fun x => x.1.need K, pre := fun x => RuleOk x.1.rs, val := fun _ y => .ref y, gives := fun x y => [.one (.ref y) (.list ((gapsF x.1.rs x.2).map PyData.int))] }
theorem sc_Rule_gaps : FnScope ["self", "tick", "found", "before", "age"] ["self", "tick"] (defScope s_Rule_gaps) := ⟨rfl, rfl, rfl, by decide +kernel, rfl, by decide +kernel, by decide +kernel⟩
theorem bi_Rule_gaps {K : PySem.W.Frag} {mg : Str → Option Value} (T : Txt K mg) : Binds K (fdA K (He.ma K (He.ga K "Rule") "gaps")) ["self", "tick"] [] := T.F_Rule_gaps.bindsN fun _ _ _ _ _ _ us hl => match us, hl with | [_, _], _ => rfl
theorem ok_Rule_gaps {P : Program} {w0 : World} {K : PySem.W.Frag} {mg : Str → Option Value} {base : Heap} (T : Txt K mg) : FnOk P w0 K mg base CX0 2 (He.ma K (He.ga K "Rule") "gaps") (fdA K (He.ma K (He.ga K "Rule") "gaps")) ["self", "tick"] ((pr_Rule_gaps K).sp K) := by
  refine T.F_Rule_gaps.ok sc_Rule_gaps (fun vs H Q E h => by
    obtain ⟨x, e⟩ := Pro.len h
    rw [e]
    rfl) (fun cdv A outer s0 H vs Q E hr h => ?_)
  obtain ⟨x, G0, rfl, hp, see, w, k⟩ := Pro.use h
  refine ⟨_, PSs.nox (pss_cons (ps_set (i := 2) sc_Rule_gaps.nd rfl (by first | exact Or.inl rfl | exact Or.inr rfl) (pe_lst pa_nil))
      (pss_cons (ps_set (i := 3) sc_Rule_gaps.nd rfl (by first | exact Or.inl rfl | exact Or.inr rfl) pe_int)
      (pss_cons (ps_for PassesOwn.never rfl (pi_list (pe_meth (pv 0) T.cl_Rule T.me_Rule__ages (ok_Rule__ages T) (hr.mono (by decide)) (bi_Rule__ages T) .nil pass0 (pa_cons (pv 1) pa_nil))) (pg_name (i := 4) sc_Rule_gaps.nd rfl (by first | exact Or.inl rfl | exact Or.inr rfl))
        (pss_cons (ps_expr (pe_bm PySem.F.plainAttrs_list PySem.F.slot_list_append PySem.F.type_list_append mt_append (pv 2) (pa_cons (pe_op op_sub (pv 4) (pv 3)) pa_nil)))
        (pss_one (ps_set (i := 3) sc_Rule_gaps.nd rfl (by first | exact Or.inl rfl | exact Or.inr rfl) (pv 4)))))
      (pss_one (ps_ret (pv 2)))))), ?_⟩
  obtain ⟨⟨r, dx, a, rs⟩, tick⟩ := x
  have hR : RuleOk rs := hp
  refine ⟨Nat.zero_le _, fun l hl => ?_⟩
  have w := w.newM hl (.lst [])
  refine ⟨_, rfl, r, dx, _, rfl, w.atP m0, rfl, _, rfl, ?_⟩
  refine Pro.call0 (r := pr_Rule__ages K) (⟨r, dx, a, rs⟩, tick) w rfl hR inAll fun H1 y w _ kp => ?_
  obtain ⟨y', xs, e1, hs, hlx, w⟩ := w.lst m0
  cases e1
  have ex := w.ints m0
  subst ex
  refine ⟨y, rfl, ⟨_, hs⟩, ?_⟩
  have hages : (agesF rs tick).length ≤ 1600 := by
    unfold agesF
    refine Nat.le_trans (List.length_filter_le ..) ?_
    rw [List.length_map, List.length_range]
    exact Nat.le_refl _
  refine for_list (K := K) (a := y) (xs := (agesF rs tick).map V.int) (fun i σ H' => ∃ ag, σ = [some (.ref r), some (.int tick), some (.ref l), some (.int (((agesF rs tick).take i).getLastD 0)), ag] ∧ Wd K G0 H H' [] [(l, .lst ((diffs 0 ((agesF rs tick).take i)).map V.int))] [.sq y ((agesF rs tick).map V.int)])
    ⟨none, rfl, w.sub (in1 m1)⟩ (fun i σ H' _ ⟨_, _, w⟩ => w.sq m0) ?_ ?_
  · rintro i x σ H' hi ⟨ag, rfl, w⟩
    rw [List.getElem?_map] at hi
    obtain ⟨z, hz, rfl⟩ := Option.map_eq_some_iff.mp hi
    have hl1 := w.at_ m0
    have hil : i < (agesF rs tick).length := (List.getElem?_eq_some_iff.mp hz).1
    have hdl : ∀ (l : List Int) (b : Int), (diffs b l).length = l.length := by
      intro l
      induction l with
      | nil => intro b; rfl
      | cons x l ih => intro b; show (diffs x l).length + 1 = l.length + 1; rw [ih]
    refine ⟨_, rfl, .inl ⟨rfl, _, SqL.of hl1⟩, _, rfl, _, rfl, _, _, rfl, rfl, l, _, _, rfl, rfl, hl1, Nat.lt_of_le_of_lt (show _ ≤ 1600 by rw [List.length_map, hdl, List.length_take]; omega) (by decide), ?_⟩
    have w := w.put (o' := .lst ((diffs 0 ((agesF rs tick).take i)).map V.int ++ [.int (z - ((agesF rs tick).take i).getLastD 0)]))
    have et : (agesF rs tick).take (i + 1) = (agesF rs tick).take i ++ [z] := by rw [List.take_succ, hz]; rfl
    refine ⟨_, rfl, some (.int z), ?_, ?_⟩
    · have e : ((agesF rs tick).take (i + 1)).getLastD 0 = z := by rw [et]; simp
      rw [e]
      rfl
    · rw [et, diffs_snoc, List.map_append]
      exact w
  · rintro σ H' ⟨ag, rfl, w⟩
    rw [List.length_map, List.take_length] at w
    refine ⟨_, rfl, ?_⟩
    exact k _ _ _ l ((w.ofInts (diffs 0 (agesF rs tick))).fixL m0) (in1 m0) trivial rfl
end K66

namespace K66
open PySem PySem.Spec PyProof.Rows L2 KX
theorem diffs_bd {N : Int} : ∀ (l : List Int) (b : Int), 0 ≤ b → (b :: l).Pairwise (· < ·) → (∀ a ∈ l, a < N) → ∀ g ∈ diffs b l, 0 ≤ g ∧ g < N
  | [], _, _, _, _, g, h => by cases h
  | a :: l, b, hb, hp, hm, g, h => by
    rw [List.pairwise_cons] at hp
    have h1 := hp.1 a (List.mem_cons_self ..)
    have h2 := hm a (List.mem_cons_self ..)
    rcases List.mem_cons.mp h with e | e
    · omega
    · exact diffs_bd l a (by omega) hp.2 (fun x hx => hm x (List.mem_cons_of_mem _ hx)) g e
theorem agesF_bd {rs : List Row} {tick : Int} : ∀ a ∈ agesF rs tick, 0 ≤ a ∧ a < 1600 := fun a h => by
  obtain ⟨k, hk, rfl⟩ := List.mem_map.mp (List.mem_filter.mp h).1
  have := List.mem_range.mp hk
  exact ⟨Int.natCast_nonneg k, by show ((k : Nat) : Int) < 1600; omega⟩
theorem gapsF_bd {rs : List Row} {tick : Int} : ∀ g ∈ gapsF rs tick, 0 ≤ g ∧ g < 1600 := fun g h => by
  unfold gapsF at h
  have pw := agesF_pw rs tick
  have bd := agesF_bd (rs := rs) (tick := tick)
  cases e : agesF rs tick with
  | nil => rw [e] at h; cases h
  | cons a l =>
    rw [e] at h pw bd
    have ba := bd a (List.mem_cons_self ..)
    rcases List.mem_cons.mp h with q | q
    · omega
    · exact diffs_bd l a ba.1 pw (fun x hx => (bd x (List.mem_cons_of_mem _ hx)).2) g q
theorem diffs_len : ∀ (l : List Int) (b : Int), (diffs b l).length = l.length
  | [], _ => rfl
  | a :: l, b => congrArg (· + 1) (diffs_len l a)
theorem gapsF_len {rs : List Row} {tick : Int} : (gapsF rs tick).length ≤ 1600 := by
  unfold gapsF agesF
  rw [diffs_len]
  refine Nat.le_trans (List.length_filter_le ..) ?_
  rw [List.length_map, List.length_range]
  exact Nat.le_refl _
/-- the best so far of the def's loop: from (0, 0) on -/
def BestTo (f : Nat → Int) (i : Nat) (b : Int) (j : Nat) : Prop := if i = 0 then b = 0 ∧ j = 0 else Best f i b j
theorem BestTo.up {f : Nat → Int} {i j : Nat} {b : Int} (h : BestTo f i b j) (c : b < f i) : BestTo f (i + 1) (f i) i := by
  unfold BestTo at *
  rw [if_neg (by omega)]
  by_cases e : i = 0
  · subst e
    exact ⟨by omega, rfl, fun k hk => by rw [show k = 0 by omega]; exact Int.le_refl _, fun k hk => absurd hk (Nat.not_lt_zero _)⟩
  · rw [if_neg e] at h
    refine ⟨by omega, rfl, fun k hk => ?_, fun k hk => ?_⟩
    · rcases Nat.lt_succ_iff_lt_or_eq.mp hk with z | z
      · have := h.le k z; omega
      · rw [z]; exact Int.le_refl _
    · have := h.le k hk; omega
theorem BestTo.stay {f : Nat → Int} {i j : Nat} {b : Int} (h : BestTo f i b j) (c : ¬ b < f i) (pos : ∀ k, 0 < f k) : BestTo f (i + 1) b j := by
  unfold BestTo at *
  rw [if_neg (by omega)]
  have p := pos i
  by_cases e : i = 0
  · rw [if_pos e] at h
    omega
  · rw [if_neg e] at h
    refine ⟨by have := h.lt; omega, h.at_, fun k hk => ?_, h.first⟩
    rcases Nat.lt_succ_iff_lt_or_eq.mp hk with z | z
    · exact h.le k z
    · rw [z]; omega
theorem sum_nn : ∀ (l : List Int), (∀ x ∈ l, 0 ≤ x) → 0 ≤ l.sum
  | [], _ => Int.le_refl _
  | x :: l, h => by
    rw [List.sum_cons]
    have a := h x (List.mem_cons_self ..)
    have b := sum_nn l fun y hy => h y (List.mem_cons_of_mem _ hy)
    omega
theorem roomG_pos {gs : List Int} {pages rate : Int} (h1 : 1 ≤ pages) (h2 : 1 ≤ rate) (hg : ∀ g ∈ gs, 0 ≤ g) : 0 < roomG gs pages rate := by
  unfold roomG
  have := sum_nn (gs.map fun g => minP pages (rate * g)) fun x hx => by
    obtain ⟨g, hg1, rfl⟩ := List.mem_map.mp hx
    have a := hg g hg1
    have b := Int.mul_nonneg (show 0 ≤ rate by omega) a
    unfold minP
    split <;> omega
  omega
theorem roomF_pos {rs : List Row} {tick pages rate : Int} (h1 : 1 ≤ pages) (h2 : 1 ≤ rate) : 0 < roomF rs tick pages rate := roomG_pos h1 h2 fun g hg => (gapsF_bd g hg).1
theorem settled_bd {rs : List Row} (hR : RuleOk rs) {m : Int} (h : IsMax (prods rs) m) : 1 ≤ m ∧ m ≤ 1600 := by
  obtain ⟨r, hr, e⟩ := List.mem_map.mp h.1
  obtain ⟨h1, h2, h3, h4⟩ := hR.row r hr
  rw [← e]
  have a : 1 * 1 ≤ r.1 * r.2 := Int.mul_le_mul h1 h3 (by omega) (by omega)
  have b : r.1 * r.2 ≤ 200 * 8 := Int.mul_le_mul h2 h4 (by omega) (by omega)
  exact ⟨by omega, by omega⟩
def eRowsL (rs : List Row) : PyData := .list (eRows rs)
theorem lim9 {x : Int} (h1 : 0 < x) (h2 : x < 2 ^ 62) : 0 < x ∧ x.natAbs.log2 < 9000 := ⟨h1, Nat.lt_of_lt_of_le ((Nat.log2_lt (by omega)).mpr (show x.natAbs < 2 ^ 62 by omega)) (by decide)⟩
theorem mulL {i j : Int} (h1 : 1 ≤ i) (h2 : i ≤ 1000) : CMul i j := .inl ⟨by omega, by omega⟩
end K66
namespace K66
open PySem PySem.Spec PyProof.Rows L2 KX
def pr_room_at (K : PySem.W.Frag) : Pro (Rg × Int × Int × Int) Unit := { args := fun x => [.ref x.1.r, .int x.2.1, .int x.2.2.1, .int x.2.2.2], need := fun x => x.1.need K, pre := fun x => RuleOk x.1.rs ∧ 1 ≤ x.2.2.1 ∧ x.2.2.1 ≤ 1000 ∧ 1 ≤ x.2.2.2 ∧ x.2.2.2 ≤ 1000, val := fun x _ => .int (roomF x.1.rs x.2.1 x.2.2.1 x.2.2.2) }
theorem sc_room_at : FnScope ["rule", "tick", "pages", "rate", "gap"] ["rule", "tick", "pages", "rate"] (defScope s_room_at) := ⟨rfl, rfl, rfl, by decide +kernel, rfl, by decide +kernel, by decide +kernel⟩
theorem bi_room_at {K : PySem.W.Frag} {mg : Str → Option Value} (T : Txt K mg) : Binds K (fdA K (He.ga K "room_at")) ["rule", "tick", "pages", "rate"] [] := T.F_room_at.bindsN fun _ _ _ _ _ _ us hl => match us, hl with | [_, _, _, _], _ => rfl
theorem ok_room_at {P : Program} {w0 : World} {K : PySem.W.Frag} {mg : Str → Option Value} {base : Heap} (T : Txt K mg) : FnOk P w0 K mg base CX0 3 (He.ga K "room_at") (fdA K (He.ga K "room_at")) ["rule", "tick", "pages", "rate"] ((pr_room_at K).sp K) := by
  refine T.F_room_at.ok sc_room_at (fun vs H Q E h => by
    obtain ⟨x, e⟩ := Pro.len h
    rw [e]
    rfl) (fun cdv A outer s0 H vs Q E hr h => ?_)
  obtain ⟨x, G0, rfl, hp, see, w, k⟩ := Pro.use h
  refine ⟨_, PSs.nox (pss_one (ps_ret (pe_op op_add (pv 2) (pe_callB (cr_sum rfl) (by rfl) T.b_sum (by decide +kernel) (pa_cons (pe_lc (own := [("gap", 4)]) (g := (gName 4)) rfl sc_room_at.nd (pi_list (pe_meth (pv 0) T.cl_Rule T.me_Rule_gaps (ok_Rule_gaps T) (hr.mono (by decide)) (bi_Rule_gaps T) .nil pass0 (pa_cons (pv 1) pa_nil))) (blkOk_by (N := ["rule", "tick", "pages", "rate", "gap"]) (sc := defScope s_room_at) (by decide +kernel)) (fun _ _ _ _ _ => (pg_name (i := 4) sc_room_at.nd rfl (by first | exact Or.inl rfl | exact Or.inr rfl))) (fun _ _ _ _ _ => pts_nil) (fun _ _ _ _ _ => (pe_callB (call_min2 rfl) (by rfl) T.b_min (by decide +kernel) (pa_cons (pv 2) (pa_cons (pe_op op_mul (pv 3) (pv 4)) pa_nil))))) pa_nil))))), ?_⟩
  obtain ⟨⟨r, dx, a, rs⟩, tick, pages, rate⟩ := x
  obtain ⟨hR, hp1, hp2, hr1, hr2⟩ := hp
  dsimp only at hR hp1 hp2 hr1 hr2
  refine ⟨_, rfl, ?_⟩
  refine ⟨_, rfl, r, dx, _, rfl, w.atP m0, rfl, _, rfl, ?_⟩
  refine Pro.call0 (r := pr_Rule_gaps K) (⟨r, dx, a, rs⟩, tick) w rfl hR inAll fun H1 y w _ kp => ?_
  obtain ⟨y', xs, e1, hs, hlx, w⟩ := w.lst m0
  cases e1
  have ex := w.ints m0
  subst ex
  refine ⟨y, rfl, ⟨_, hs⟩, fun D hD => ?_⟩
  refine lc_list (K := K) (a := y) (xs := (gapsF rs tick).map V.int) (fun i H' => Wd K G0 H H' [] [(D, .lst (((gapsF rs tick).take i).map fun g => V.int (minP pages (rate * g))))] [.sq y ((gapsF rs tick).map V.int)]) ((w.newM hD (.lst [])).sub (in1 m1)) (fun i H' _ w => w.sq m0) (fun i x H' hi w => ?_) (fun H' w => ?_)
  · rw [List.getElem?_map] at hi
    obtain ⟨z, hz, rfl⟩ := Option.map_eq_some_iff.mp hi
    have hil : i < (gapsF rs tick).length := (List.getElem?_eq_some_iff.mp hz).1
    have hgl := gapsF_len (rs := rs) (tick := tick)
    refine ⟨rfl, yesL ⟨_, rfl, _, rfl, _, rfl, _, _, rfl, rfl, mulL hr1 hr2, _, _, rfl, _, w.at_ m0, Nat.lt_of_le_of_lt (show _ ≤ 1600 by rw [List.length_map, List.length_take]; omega) (by decide), ?_⟩⟩
    have e : (((gapsF rs tick).take (i + 1)).map fun g => V.int (minP pages (rate * g))) = (((gapsF rs tick).take i).map fun g => V.int (minP pages (rate * g))) ++ [V.int (minP pages (rate * z))] := by
      rw [List.take_succ, hz, List.map_append]
      rfl
    rw [e]
    exact w.put
  · rw [List.length_map, List.take_length] at w
    refine ⟨D, (gapsF rs tick).map fun g => minP pages (rate * g), rfl, SqL.of (by rw [List.map_map]; exact w.at_ m0), _, _, rfl, rfl, ?_⟩
    exact k _ _ _ () w in0 trivial rfl
end K66
namespace K66
open PySem PySem.Spec PyProof.Rows L2 KX
def pr_greatest_room (K : PySem.W.Frag) : Pro (Rg × Int × Int) (Addr × Int × Nat) := { args := fun x => [.ref x.1.r, .int x.2.1, .int x.2.2], need := fun x => x.1.need K, pre := fun x => RuleOk x.1.rs ∧ 1 ≤ x.2.1 ∧ x.2.1 ≤ 1000 ∧ 1 ≤ x.2.2 ∧ x.2.2 ≤ 1000, val := fun _ y => .ref y.1, gives := fun _ y => [.one (.ref y.1) (.tuple [.int y.2.1, .int y.2.2])], post := fun x y => ∃ q m n, x.1.rs.getLast? = some q ∧ IsMax (prods x.1.rs) m ∧ ((n : Nat) : Int) = m + q.1 ∧ Best (fun j => roomF x.1.rs (j : Int) x.2.1 x.2.2) n y.2.1 y.2.2 }
theorem sc_greatest_room : FnScope ["rule", "pages", "rate", "best", "tick", "room"] ["rule", "pages", "rate"] (defScope s_greatest_room) := ⟨rfl, rfl, rfl, by decide +kernel, rfl, by decide +kernel, by decide +kernel⟩
theorem bi_greatest_room {K : PySem.W.Frag} {mg : Str → Option Value} (T : Txt K mg) : Binds K (fdA K (He.ga K "greatest_room")) ["rule", "pages", "rate"] [] := T.F_greatest_room.bindsN fun _ _ _ _ _ _ us hl => match us, hl with | [_, _, _], _ => rfl
theorem ok_greatest_room {P : Program} {w0 : World} {K : PySem.W.Frag} {mg : Str → Option Value} {base : Heap} (T : Txt K mg) : FnOk P w0 K mg base CX0 4 (He.ga K "greatest_room") (fdA K (He.ga K "greatest_room")) ["rule", "pages", "rate"] ((pr_greatest_room K).sp K) := by
  refine T.F_greatest_room.ok sc_greatest_room (fun vs H Q E h => by
    obtain ⟨x, e⟩ := Pro.len h
    rw [e]
    rfl) (fun cdv A outer s0 H vs Q E hr h => ?_)
  obtain ⟨x, G0, rfl, hp, see, w, k⟩ := Pro.use h
  refine ⟨_, PSs.nox (pss_cons (ps_set (i := 3) sc_greatest_room.nd rfl (by first | exact Or.inl rfl | exact Or.inr rfl) (pe_tup (pa_cons pe_int (pa_cons pe_int pa_nil))))
      (pss_cons (ps_for PassesOwn.never rfl (pi_range1 (by rfl) T.b_range (pa_cons (pe_op op_add (pe_prop (pv 0) T.cl_Rule T.pr_Rule_settled (ok_Rule_settled T) (hr.mono (by decide)) (bi_Rule_settled T) .nil pass0 rfl) (pe_prop (pv 0) T.cl_Rule T.pr_Rule_period (ok_Rule_period T) (hr.mono (by decide)) (bi_Rule_period T) .nil pass0 rfl)) pa_nil)) (pg_name (i := 4) sc_greatest_room.nd rfl (by first | exact Or.inl rfl | exact Or.inr rfl))
        (pss_cons (ps_set (i := 5) sc_greatest_room.nd rfl (by first | exact Or.inl rfl | exact Or.inr rfl) (pe_call (ok_room_at T) (hr.mono (by decide)) (by rfl) T.g_room_at T.F_room_at.kp (bi_room_at T) .nil pass0 (pa_cons (pv 0) (pa_cons (pv 4) (pa_cons (pv 1) (pa_cons (pv 2) pa_nil))))))
        (pss_one (ps_if (pt_cmpR op_gt (pv 5) (pe_ix ix_tup (pv 3) pe_int (fun _ _ => rfl)) (nomark _))
          (pss_one (ps_set (i := 3) sc_greatest_room.nd rfl (by first | exact Or.inl rfl | exact Or.inr rfl) (pe_tup (pa_cons (pv 5) (pa_cons (pv 4) pa_nil)))))
          pss_nil))))
      (pss_one (ps_ret (pv 3))))), ?_⟩
  obtain ⟨⟨r, dx, a, rs⟩, pages, rate⟩ := x
  obtain ⟨hR, hp1, hp2, hr1, hr2⟩ := hp
  dsimp only at hR hp1 hp2 hr1 hr2
  refine ⟨by show 2 ≤ sizeLine; decide, fun t0 ht0 => ?_⟩
  have w := (w.ofInts [0, 0]).newT ht0 m0
  refine ⟨_, rfl, r, dx, _, rfl, w.atP m2, ?_⟩
  refine Pro.call0 (r := pr_Rule_settled K) ⟨r, dx, a, rs⟩ w rfl hR (in2 m2 m3) fun H1 m w hm kp => ?_
  refine ⟨_, rfl, r, dx, _, rfl, w.atP m2, ?_⟩
  obtain ⟨q, hq⟩ : ∃ q, rs.getLast? = some q := ⟨rs.getLast hR.ne, List.getLast?_eq_some_getLast hR.ne⟩
  have hqb := hR.row q (List.mem_of_getLast? hq)
  have hmb := settled_bd hR hm
  refine Pro.call0 (r := pr_Rule_period K) (⟨r, dx, a, rs⟩, q) w rfl hq (in2 m2 m3) fun H2 _ w _ kp => ?_
  refine ⟨_, _, rfl, rfl, m + q.1, rfl, by omega, by omega, ?_⟩
  refine for_range (lo := 0) (n := (m + q.1).toNat) (fun i σ H' => ∃ t b j tk rm, σ = [some (.ref r), some (.int pages), some (.int rate), some (.ref t), tk, rm] ∧ Wd K G0 H H' [] [] (.one (.ref t) (.tuple [.int b, .int ((j : Nat) : Int)]) :: Rg.need K ⟨r, dx, a, rs⟩) ∧ BestTo (fun j => roomF rs (j : Int) pages rate) i b j)
    ⟨t0, 0, 0, none, none, rfl, w.sub (in3 m0 m2 m3), (if_pos rfl).mpr ⟨rfl, rfl⟩⟩ ?_ ?_
  · rintro i σ H' hi ⟨t, b, j, tk, rm, rfl, w, hb⟩
    rw [Int.zero_add]
    refine ⟨_, rfl, _, rfl, _, rfl, _, rfl, ?_⟩
    refine Pro.call0 (r := pr_room_at K) (⟨r, dx, a, rs⟩, (i : Int), pages, rate) w rfl ⟨hR, hp1, hp2, hr1, hr2⟩ (in2 m1 m2) fun H1 _ w _ kp => ?_
    obtain ⟨t', e1, ht⟩ := w.ii m0
    cases e1
    refine ⟨_, rfl, _, rfl, _, _, _, _, rfl, rfl, ht, rfl, _, _, rfl, rfl, _, rfl, ite2 (fun c => ?_) (fun c => ?_)⟩
    · refine ⟨_, rfl, _, rfl, by show 2 ≤ sizeLine; decide, fun t2 ht2 => ?_⟩
      have w := (w.ofInts [roomF rs (i : Int) pages rate, (i : Int)]).newT ht2 m0
      exact ⟨t2, _, i, _, _, rfl, w.sub (in3 m0 m3 m4), hb.up (of_decide_eq_true c)⟩
    · exact ⟨t, b, j, _, _, rfl, w.sub inAll, hb.stay (fun z => c (decide_eq_true z)) fun k => roomF_pos hp1 hr1⟩
  · rintro σ H' ⟨t, b, j, tk, rm, rfl, w, hb⟩
    refine ⟨_, rfl, ?_⟩
    unfold BestTo at hb
    rw [if_neg (by omega)] at hb
    exact k _ [] _ (t, b, j) w (in1 m0) ⟨q, m, (m + q.1).toNat, hq, hm, by omega, hb⟩ rfl
end K66
namespace K66
open PySem PySem.Spec PyProof.Rows L2 KX
def pr__law_size (K : PySem.W.Frag) : Pro Sg Int := { args := fun x => [.ref x.s], need := fun x => x.need, ext := fun x => x.ext, val := fun _ r => .int r, post := fun x r => 1 ≤ r ∧ r ≤ 1000 }
theorem sc__law_size : FnScope ["state"] ["state"] (defScope s__law_size) := ⟨rfl, rfl, rfl, by decide +kernel, rfl, by decide +kernel, by decide +kernel⟩
theorem bi__law_size {K : PySem.W.Frag} {mg : Str → Option Value} (T : Txt K mg) : Binds K (fdA K (He.ga K "_law_size")) ["state"] [] := T.F__law_size.bindsN fun _ _ _ _ _ _ us hl => match us, hl with | [_], _ => rfl
theorem ok__law_size {P : Program} {w0 : World} {K : PySem.W.Frag} {mg : Str → Option Value} {base : Heap} (T : Txt K mg) : FnOk P w0 K mg base CX0 3 (He.ga K "_law_size") (fdA K (He.ga K "_law_size")) ["state"] ((pr__law_size K).sp K) := by
  refine T.F__law_size.ok sc__law_size (fun vs H Q E h => by
    obtain ⟨x, e⟩ := Pro.len h
    rw [e]
    rfl) (fun cdv A outer s0 H vs Q E hr h => ?_)
  obtain ⟨x, G0, rfl, hp, see, w, k⟩ := Pro.use h
  refine ⟨_, PSs.nox (pss_cons (ps_if (pt_cmpR op_eq (pe_call (ok__law_next T) (hr.mono (by decide)) (by rfl) T.g__law_next T.F__law_next.kp (bi__law_next T) .nil pass0 (pa_cons (pv 0) (pa_cons pe_int pa_nil))) pe_int (nomark _))
        (pss_one (ps_ret (pe_op op_add pe_int (pe_call (ok__law_next T) (hr.mono (by decide)) (by rfl) T.g__law_next T.F__law_next.kp (bi__law_next T) .nil pass0 (pa_cons (pv 0) (pa_cons pe_int pa_nil))))))
        pss_nil)
      (pss_one (ps_ret (pe_op op_add pe_int (pe_call (ok__law_next T) (hr.mono (by decide)) (by rfl) T.g__law_next T.F__law_next.kp (bi__law_next T) .nil pass0 (pa_cons (pv 0) (pa_cons pe_int pa_nil))))))), ?_⟩
  refine ⟨_, rfl, ?_⟩
  refine Pro.callX (r := pr__law_next K) (x, 4) w rfl (lim9 (x := 4) (by decide) (by decide)) inAll fun H1 r w hr1 => ?_
  refine ⟨rfl, _, rfl, ite2 (fun _ => ?_) (fun _ => ?_)⟩
  · refine ⟨_, rfl, ?_⟩
    refine Pro.callX (r := pr__law_next K) (x, 1000) w rfl (lim9 (x := 1000) (by decide) (by decide)) inAll fun H1 r w hr1 => ?_
    have h1 : 0 ≤ r ∧ r < 1000 := hr1
    exact ⟨_, _, rfl, rfl, k _ _ _ _ w in0 ⟨by omega, by omega⟩ rfl⟩
  · refine ⟨_, rfl, ?_⟩
    refine Pro.callX (r := pr__law_next K) (x, 40) w rfl (lim9 (x := 40) (by decide) (by decide)) inAll fun H1 r w hr1 => ?_
    have h1 : 0 ≤ r ∧ r < 40 := hr1
    exact ⟨_, _, rfl, rfl, k _ _ _ _ w in0 ⟨by omega, by omega⟩ rfl⟩
end K66
namespace K66
open PySem PySem.Spec PyProof.Rows L2 KX
def pr__law_room (K : PySem.W.Frag) : Pro (V × List Int × Int × Int) Unit := { args := fun x => [x.1, .int x.2.2.1, .int x.2.2.2], need := fun x => [.one x.1 (.list (x.2.1.map PyData.int))], pre := fun x => 1 ≤ x.2.2.1 ∧ x.2.2.1 ≤ 1000 ∧ 1 ≤ x.2.2.2 ∧ x.2.2.2 ≤ 1000 ∧ x.2.1.length ≤ 1600, val := fun x _ => .int (roomG x.2.1 x.2.2.1 x.2.2.2) }
theorem sc__law_room : FnScope ["gaps", "pages", "rate", "gap"] ["gaps", "pages", "rate"] (defScope s__law_room) := ⟨rfl, rfl, rfl, by decide +kernel, rfl, by decide +kernel, by decide +kernel⟩
theorem bi__law_room {K : PySem.W.Frag} {mg : Str → Option Value} (T : Txt K mg) : Binds K (fdA K (He.ga K "_law_room")) ["gaps", "pages", "rate"] [] := T.F__law_room.bindsN fun _ _ _ _ _ _ us hl => match us, hl with | [_, _, _], _ => rfl
theorem ok__law_room {P : Program} {w0 : World} {K : PySem.W.Frag} {mg : Str → Option Value} {base : Heap} (T : Txt K mg) : FnOk P w0 K mg base CX0 1 (He.ga K "_law_room") (fdA K (He.ga K "_law_room")) ["gaps", "pages", "rate"] ((pr__law_room K).sp K) := by
  refine T.F__law_room.ok sc__law_room (fun vs H Q E h => by
    obtain ⟨x, e⟩ := Pro.len h
    rw [e]
    rfl) (fun cdv A outer s0 H vs Q E hr h => ?_)
  obtain ⟨x, G0, rfl, hp, see, w, k⟩ := Pro.use h
  refine ⟨_, PSs.nox (pss_one (ps_ret (pe_op op_add (pv 1) (pe_callB (cr_sum rfl) (by rfl) T.b_sum (by decide +kernel) (pa_cons (pe_lc (own := [("gap", 3)]) (g := (gName 3)) rfl sc__law_room.nd (pi_list (pv 0)) (blkOk_by (N := ["gaps", "pages", "rate", "gap"]) (sc := defScope s__law_room) (by decide +kernel)) (fun _ _ _ _ _ => (pg_name (i := 3) sc__law_room.nd rfl (by first | exact Or.inl rfl | exact Or.inr rfl))) (fun _ _ _ _ _ => pts_nil) (fun _ _ _ _ _ => (pe_callB (call_min2 rfl) (by rfl) T.b_min (by decide +kernel) (pa_cons (pv 1) (pa_cons (pe_op op_mul (pv 2) (pv 3)) pa_nil))))) pa_nil))))), ?_⟩
  obtain ⟨v, gs, pages, rate⟩ := x
  obtain ⟨hp1, hp2, hr1, hr2, hgl⟩ := hp
  dsimp only at hp1 hp2 hr1 hr2 hgl
  obtain ⟨y, xs, e1, hs, hlx, w⟩ := w.lst m0
  have e1 : v = .ref y := e1
  subst e1
  have ex := w.ints m0
  subst ex
  refine ⟨_, rfl, ?_⟩
  refine ⟨_, rfl, y, rfl, ⟨_, hs⟩, fun D hD => ?_⟩
  refine lc_list (K := K) (a := y) (xs := gs.map V.int) (fun i H' => Wd K G0 H H' [] [(D, .lst ((gs.take i).map fun g => V.int (minP pages (rate * g))))] [.sq y (gs.map V.int)]) ((w.newM hD (.lst [])).sub (in1 m1)) (fun i H' _ w => w.sq m0) (fun i x H' hi w => ?_) (fun H' w => ?_)
  · rw [List.getElem?_map] at hi
    obtain ⟨z, hz, rfl⟩ := Option.map_eq_some_iff.mp hi
    have hil : i < gs.length := (List.getElem?_eq_some_iff.mp hz).1
    refine ⟨rfl, yesL ⟨_, rfl, _, rfl, _, rfl, _, _, rfl, rfl, mulL hr1 hr2, _, _, rfl, _, w.at_ m0, Nat.lt_of_le_of_lt (show _ ≤ 1600 by rw [List.length_map, List.length_take]; omega) (by decide), ?_⟩⟩
    have e : ((gs.take (i + 1)).map fun g => V.int (minP pages (rate * g))) = ((gs.take i).map fun g => V.int (minP pages (rate * g))) ++ [V.int (minP pages (rate * z))] := by
      rw [List.take_succ, hz, List.map_append]
      rfl
    rw [e]
    exact w.put
  · rw [List.length_map, List.take_length] at w
    refine ⟨D, gs.map fun g => minP pages (rate * g), rfl, SqL.of (by rw [List.map_map]; exact w.at_ m0), _, _, rfl, rfl, ?_⟩
    exact k _ _ _ () w in0 trivial rfl
end K66

namespace K66
open PySem PySem.Spec PyProof.Rows L2 KX
theorem RuleOk.one {p c : Int} (h1 : 1 ≤ p) (h2 : p ≤ 200) (h3 : 1 ≤ c) (h4 : c ≤ 8) : RuleOk [(p, c)] := ⟨by simp, by simp, fun r hr => by rw [List.mem_singleton] at hr; subst hr; exact ⟨h1, h2, h3, h4⟩, fun i r q e1 e2 => by simp at e2⟩
theorem RuleOk.snoc {rs : List Row} {q : Row} {p c : Int} (h : RuleOk rs) (hl : rs.length ≤ 3) (hq : rs.getLast? = some q) (h1 : q.1 < p) (h2 : p ≤ 200) (hd : p % q.1 = 0) (h3 : 1 ≤ c) (h4 : c ≤ 8) : RuleOk (rs ++ [(p, c)]) := by
  have q1 := h.row q (List.mem_of_getLast? hq)
  refine ⟨by simp, by rw [List.length_append]; show rs.length + 1 ≤ 4; omega, fun r hr => ?_, fun i r z e1 e2 => ?_⟩
  · rcases List.mem_append.mp hr with e | e
    · exact h.row r e
    · rw [List.mem_singleton] at e
      subst e
      exact ⟨by show 1 ≤ p; omega, h2, h3, h4⟩
  · by_cases c1 : i + 1 < rs.length
    · rw [List.getElem?_append_left (by omega)] at e1
      rw [List.getElem?_append_left c1] at e2
      exact h.next i r z e1 e2
    · have c2 : i + 1 < (rs ++ [(p, c)]).length := (List.getElem?_eq_some_iff.mp e2).1
      rw [List.length_append] at c2
      have c3 : i + 1 = rs.length := by
        have : i + 1 < rs.length + 1 := c2
        omega
      rw [List.getElem?_append_right (by omega), c3, Nat.sub_self] at e2
      rw [List.getElem?_append_left (by omega)] at e1
      rw [List.getLast?_eq_getElem?, show rs.length - 1 = i by omega, e1] at hq
      cases hq
      cases e2
      exact ⟨h1, hd⟩
end K66
namespace K66
open PySem PySem.Spec PyProof.Rows L2 KX
def pr__law_rule (K : PySem.W.Frag) : Pro (Sg × Int) (Addr × List Row) := { args := fun x => [.ref x.1.s, .int x.2], need := fun x => x.1.need, ext := fun x => x.1.ext, pre := fun x => 1 ≤ x.2 ∧ x.2 ≤ 200, val := fun _ y => .ref y.1, gives := fun _ y => [.one (.ref y.1) (eRowsL y.2)], post := fun x y => RuleOk y.2 }
theorem sc__law_rule : FnScope ["state", "most", "period", "rows", "k"] ["state", "most"] (defScope s__law_rule) := ⟨rfl, rfl, rfl, by decide +kernel, rfl, by decide +kernel, by decide +kernel⟩
theorem bi__law_rule {K : PySem.W.Frag} {mg : Str → Option Value} (T : Txt K mg) : Binds K (fdA K (He.ga K "_law_rule")) ["state", "most"] [] := T.F__law_rule.bindsN fun _ _ _ _ _ _ us hl => match us, hl with | [_, _], _ => rfl
theorem ok__law_rule {P : Program} {w0 : World} {K : PySem.W.Frag} {mg : Str → Option Value} {base : Heap} (T : Txt K mg) : FnOk P w0 K mg base CX0 3 (He.ga K "_law_rule") (fdA K (He.ga K "_law_rule")) ["state", "most"] ((pr__law_rule K).sp K) := by
  refine T.F__law_rule.ok sc__law_rule (fun vs H Q E h => by
    obtain ⟨x, e⟩ := Pro.len h
    rw [e]
    rfl) (fun cdv A outer s0 H vs Q E hr h => ?_)
  obtain ⟨x, G0, rfl, hp, see, w, k⟩ := Pro.use h
  refine ⟨_, PSs.nox (pss_cons (ps_set (i := 2) sc__law_rule.nd rfl (by first | exact Or.inl rfl | exact Or.inr rfl) pe_int)
      (C8.pss_cut (ps_if (pt_cmpR op_eq (pe_call (ok__law_next T) (hr.mono (by decide)) (by rfl) T.g__law_next T.F__law_next.kp (bi__law_next T) .nil pass0 (pa_cons (pv 0) (pa_cons pe_int pa_nil))) pe_int (nomark _))
        (pss_one (ps_set (i := 2) sc__law_rule.nd rfl (by first | exact Or.inl rfl | exact Or.inr rfl) (pe_op op_add pe_int (pe_call (ok__law_next T) (hr.mono (by decide)) (by rfl) T.g__law_next T.F__law_next.kp (bi__law_next T) .nil pass0 (pa_cons (pv 0) (pa_cons (pv 1) pa_nil))))))
        pss_nil)
      (pss_cons (ps_set (i := 3) sc__law_rule.nd rfl (by first | exact Or.inl rfl | exact Or.inr rfl) (pe_lst (pa_cons (pe_tup (pa_cons (pv 2) (pa_cons (pe_op op_add pe_int (pe_call (ok__law_next T) (hr.mono (by decide)) (by rfl) T.g__law_next T.F__law_next.kp (bi__law_next T) .nil pass0 (pa_cons (pv 0) (pa_cons pe_int pa_nil)))) pa_nil))) pa_nil)))
      (pss_cons (ps_for PassesOwn.never rfl (pi_range1 (by rfl) T.b_range (pa_cons (pe_call (ok__law_next T) (hr.mono (by decide)) (by rfl) T.g__law_next T.F__law_next.kp (bi__law_next T) .nil pass0 (pa_cons (pv 0) (pa_cons pe_int pa_nil))) pa_nil)) (pg_name (i := 4) sc__law_rule.nd rfl (by first | exact Or.inl rfl | exact Or.inr rfl))
        (pss_cons (ps_if (pt_cmpR op_gt (pe_op op_mul pe_int (pv 2)) (pv 1) (nomark _))
          (pss_one ps_break)
          pss_nil)
        (pss_cons (ps_set (i := 2) sc__law_rule.nd rfl (by first | exact Or.inl rfl | exact Or.inr rfl) (pe_op op_mul (pv 2) (pe_op op_add pe_int (pe_call (ok__law_next T) (hr.mono (by decide)) (by rfl) T.g__law_next T.F__law_next.kp (bi__law_next T) .nil pass0 (pa_cons (pv 0) (pa_cons (pe_op op_sub (pe_op op_fdivW (pv 1) (pv 2)) pe_int) pa_nil))))))
        (pss_one (ps_expr (pe_bm PySem.F.plainAttrs_list PySem.F.slot_list_append PySem.F.type_list_append mt_append (pv 3) (pa_cons (pe_tup (pa_cons (pv 2) (pa_cons (pe_op op_add pe_int (pe_call (ok__law_next T) (hr.mono (by decide)) (by rfl) T.g__law_next T.F__law_next.kp (bi__law_next T) .nil pass0 (pa_cons (pv 0) (pa_cons pe_int pa_nil)))) pa_nil))) pa_nil)))))))
      (pss_one (ps_ret (pv 3))))))), ?_⟩
  obtain ⟨⟨s, scr, ns⟩, most⟩ := x
  obtain ⟨hm1, hm2⟩ := hp
  dsimp only at hm1 hm2
  refine ⟨fun σ' H' => ∃ p : Int, σ' = [some (.ref s), some (.int most), some (.int p), none, none] ∧ Wd K G0 H H' [(s, IsSt scr)] [] [.one (.ref scr) (.list (ns.map PyData.int))] ∧ 1 ≤ p ∧ p ≤ most, ?_, ?_⟩
  · refine ⟨_, rfl, ?_⟩
    refine Pro.callX (r := pr__law_next K) (⟨s, scr, ns⟩, 3) w rfl (lim9 (x := 3) (by decide) (by decide)) inAll fun H1 r w hr1 => ?_
    refine ⟨rfl, _, rfl, ite2 (fun _ => ?_) (fun _ => ⟨1, rfl, w.sub inAll, by omega, hm1⟩)⟩
    refine ⟨_, rfl, _, rfl, ?_⟩
    refine Pro.callX (r := pr__law_next K) (⟨s, scr, ns⟩, most) w rfl (lim9 (by omega) (by omega)) inAll fun H1 r w hr1 => ?_
    have h1 : 0 ≤ r ∧ r < most := hr1
    exact ⟨_, _, rfl, rfl, _, rfl, w.sub inAll, by omega, by omega⟩
  · rintro σ' H' ⟨p, rfl, w, hp1, hp2⟩
    refine ⟨_, rfl, _, rfl, ?_⟩
    refine Pro.callX (r := pr__law_next K) (⟨s, scr, ns⟩, 8) w rfl (lim9 (x := 8) (by decide) (by decide)) inAll fun H1 c w hc1 => ?_
    have hc : 0 ≤ c ∧ c < 8 := hc1
    refine ⟨_, _, rfl, rfl, by show 2 ≤ sizeLine; decide, fun t ht => ?_⟩
    have w := (w.ofInts [p, 1 + c]).newT ht m0
    refine ⟨by show 1 ≤ sizeLine; decide, fun l hl => ?_⟩
    have w := (w.nil.cons (u := .ref t) (e := eRow (p, 1 + c)) m1 m0).newM hl (.lst [.ref t])
    refine ⟨_, rfl, ?_⟩
    refine Pro.callX (r := pr__law_next K) (⟨s, scr, ns⟩, 4) w rfl (lim9 (x := 4) (by decide) (by decide)) (in1 m4) fun H1 n w hn1 => ?_
    have hn : 0 ≤ n ∧ n < 4 := hn1
    refine ⟨n, rfl, by omega, by omega, ?_⟩
    refine for_range (lo := 0) (n := n.toNat) (fun i σ H' => ∃ vs rs q kk, σ = [some (.ref s), some (.int most), some (.int q.1), some (.ref l), kk] ∧ Wd K G0 H H' [(s, IsSt scr)] [(l, .lst vs)] [.all vs (eRows rs), .one (.ref scr) (.list (ns.map PyData.int))] ∧ RuleOk rs ∧ rs.length = i + 1 ∧ rs.getLast? = some q ∧ q.1 ≤ most)
      ⟨_, [(p, 1 + c)], (p, 1 + c), _, rfl, w.sub (in2 m0 m4), RuleOk.one hp1 (by omega) (by omega) (by omega), rfl, rfl, hp2⟩ ?_ ?_
    · rintro i σ H' hi ⟨vs, rs, q, kk, rfl, w, hR, hlen, hq, hqm⟩
      have hqb := hR.row q (List.mem_of_getLast? hq)
      refine ⟨_, rfl, _, _, rfl, rfl, .inl ⟨by decide, by decide⟩, _, rfl, _, _, rfl, rfl, _, rfl, ite2 (fun _ => ?_) (fun c0 => ?_)⟩
      · refine ⟨_, rfl, ?_⟩
        exact k _ [] _ (l, rs) (w.fixL m0) (in1 m0) hR rfl
      · have c0 : ¬ most < 2 * q.1 := fun z => c0 (decide_eq_true z)
        have hq0 : (0 : Int) < q.1 := by omega
        have hdiv : 2 ≤ most / q.1 := (Int.le_ediv_iff_mul_le hq0).mpr (by omega)
        have hdiv2 : most / q.1 ≤ most := Int.ediv_le_self _ (by omega)
        refine ⟨_, rfl, _, rfl, _, rfl, _, rfl, _, _, rfl, rfl, lim9 hq0 (by omega), _, _, rfl, rfl, ?_⟩
        refine Pro.callX (r := pr__law_next K) (⟨s, scr, ns⟩, most / q.1 - 1) w rfl (lim9 (by omega) (by omega)) (in1 m1) fun H1 r w hr1 => ?_
        have hr : 0 ≤ r ∧ r < most / q.1 - 1 := hr1
        refine ⟨_, _, rfl, rfl, _, _, rfl, rfl, .inl ⟨by omega, by omega⟩, ?_⟩
        have hm3 : q.1 * (2 + r) ≤ q.1 * (most / q.1) := Int.mul_le_mul_of_nonneg_left (by omega) (by omega)
        have hm4 : q.1 * (most / q.1) ≤ most := Int.mul_ediv_self_le (by omega)
        have hm5 : q.1 * 2 ≤ q.1 * (2 + r) := Int.mul_le_mul_of_nonneg_left (by omega) (by omega)
        refine ⟨_, rfl, .inl ⟨rfl, _, SqL.of (w.at_ m0)⟩, _, rfl, _, rfl, ?_⟩
        refine Pro.callX (r := pr__law_next K) (⟨s, scr, ns⟩, 8) w rfl (lim9 (x := 8) (by decide) (by decide)) (in1 m1) fun H1 c w hc1 => ?_
        have hc : 0 ≤ c ∧ c < 8 := hc1
        refine ⟨_, _, rfl, rfl, by show 2 ≤ sizeLine; decide, fun t ht => ?_⟩
        have w := (w.ofInts [q.1 * (2 + r), 1 + c]).newT ht m0
        have hvl : vs.length = rs.length := w.lenM m2
        refine ⟨l, vs, _, rfl, rfl, w.at_ m0, Nat.lt_of_le_of_lt (show vs.length ≤ 4 by omega) (by decide), ?_⟩
        have w := (w.snoc m2 m0).put (o' := .lst (vs ++ [.ref t]))
        refine ⟨vs ++ [.ref t], rs ++ [(q.1 * (2 + r), 1 + c)], (q.1 * (2 + r), 1 + c), _, rfl, ?_, hR.snoc (by omega) hq (by show q.1 < q.1 * (2 + r); omega) (by omega) (Int.mul_emod_right ..) (by omega) (by omega), by rw [List.length_append, hlen]; rfl, by simp, by show q.1 * (2 + r) ≤ most; omega⟩
        have e : eRows (rs ++ [(q.1 * (2 + r), 1 + c)]) = eRows rs ++ [eRow (q.1 * (2 + r), 1 + c)] := by
          unfold eRows
          rw [List.map_append]
          rfl
        rw [e]
        exact w.sub (in2 m0 m4)
    · rintro σ H' ⟨vs, rs, q, kk, rfl, w, hR, hlen, hq, hqm⟩
      refine ⟨_, rfl, ?_⟩
      exact k _ [] _ (l, rs) (w.fixL m0) (in1 m0) hR rfl
end K66
namespace K66
open PySem PySem.Spec PyProof.Rows L2 KX
def pr__law_stands (K : PySem.W.Frag) : Pro (V × List Row × Int) (Addr × List Int) := { args := fun x => [x.1, .int x.2.2], need := fun x => [.one x.1 (eRowsL x.2.1)], pre := fun x => RuleOk x.2.1, val := fun _ y => .ref y.1, gives := fun _ y => [.one (.ref y.1) (.list (y.2.map PyData.int))], post := fun x y => y.2.Pairwise (· < ·) ∧ (∀ z, z ∈ y.2 ↔ AgeIn x.2.1 x.2.2 (x.2.2 - z)) ∧ y.2.length ≤ 32 }
theorem sc__law_stands : FnScope ["rows", "tick", "found", "period", "count", "last", "k"] ["rows", "tick"] (defScope s__law_stands) := ⟨rfl, rfl, rfl, by decide +kernel, rfl, by decide +kernel, by decide +kernel⟩
theorem bi__law_stands {K : PySem.W.Frag} {mg : Str → Option Value} (T : Txt K mg) : Binds K (fdA K (He.ga K "_law_stands")) ["rows", "tick"] [] := T.F__law_stands.bindsN fun _ _ _ _ _ _ us hl => match us, hl with | [_, _], _ => rfl
theorem ok__law_stands {P : Program} {w0 : World} {K : PySem.W.Frag} {mg : Str → Option Value} {base : Heap} (T : Txt K mg) : FnOk P w0 K mg base CX0 1 (He.ga K "_law_stands") (fdA K (He.ga K "_law_stands")) ["rows", "tick"] ((pr__law_stands K).sp K) := by
  refine T.F__law_stands.ok sc__law_stands (fun vs H Q E h => by
    obtain ⟨x, e⟩ := Pro.len h
    rw [e]
    rfl) (fun cdv A outer s0 H vs Q E hr h => ?_)
  obtain ⟨x, G0, rfl, hp, see, w, k⟩ := Pro.use h
  refine ⟨_, PSs.nox (pss_cons (ps_set (i := 2) sc__law_stands.nd rfl (by first | exact Or.inl rfl | exact Or.inr rfl) (pe_lst pa_nil))
      (pss_cons (ps_for PassesOwn.never rfl (pi_list (pv 0)) (pg_tup rfl (pgs_cons (pg_name (i := 3) sc__law_stands.nd rfl (by first | exact Or.inl rfl | exact Or.inr rfl)) (pgs_cons (pg_name (i := 4) sc__law_stands.nd rfl (by first | exact Or.inl rfl | exact Or.inr rfl)) pgs_nil)))
        (pss_cons (ps_set (i := 5) sc__law_stands.nd rfl (by first | exact Or.inl rfl | exact Or.inr rfl) (pe_op op_sub (pv 1) (pe_op op_mod (pe_callTy call_int1 (by rfl) T.b_int (by decide +kernel) (pa_cons (pv 1) pa_nil)) (pv 3))))
        (pss_one (ps_set (i := 2) sc__law_stands.nd rfl (by first | exact Or.inl rfl | exact Or.inr rfl) (pe_op op_cat (pv 2) (pe_lc (own := [("k", 6)]) (g := (gName 6)) rfl sc__law_stands.nd (pi_range1 (by rfl) T.b_range (pa_cons (pv 4) pa_nil)) (blkOk_by (N := ["rows", "tick", "found", "period", "count", "last", "k"]) (sc := defScope s__law_stands) (by decide +kernel)) (fun _ _ _ _ _ => (pg_name (i := 6) sc__law_stands.nd rfl (by first | exact Or.inl rfl | exact Or.inr rfl))) (fun _ _ _ _ _ => (pts_one (pt_cmpR op_ge (pv 5) (pe_op op_mul (pv 6) (pv 3)) (nomark _)))) (fun _ _ _ _ _ => (pe_op op_sub (pv 5) (pe_op op_mul (pv 6) (pv 3))))))))))
      (pss_one (ps_ret (pe_callB (cr_sortI rfl (hu64_of hr)) (by rfl) T.b_sorted (by decide +kernel) (pa_cons (pe_callTy (cr_setL rfl) (by rfl) T.b_set (by decide +kernel) (pa_cons (pv 2) pa_nil)) pa_nil)))))), ?_⟩
  obtain ⟨v, rs, tick⟩ := x
  have hR : RuleOk rs := hp
  obtain ⟨a, xs, e1, hs, hl, w⟩ := w.lst m0
  have e1 : v = .ref a := e1
  subst e1
  have hl : xs.length = rs.length := w.lenM m0
  refine ⟨Nat.zero_le _, fun l0 hl0 => ?_⟩
  have w := w.newM hl0 (.lst [])
  refine ⟨_, rfl, a, rfl, ⟨_, w.sq m1⟩, ?_⟩
  refine for_list (K := K) (a := a) (xs := xs) (fun i σ H' => ∃ (l : Addr) (zs : List Int) (p c la kk : Option V), σ = [some (.ref a), some (.int tick), some (.ref l), p, c, la, kk] ∧ Wd K G0 H H' [] [(l, .lst (zs.map V.int))] [.all xs (eRows rs), .sq a xs] ∧ (∀ z, z ∈ zs ↔ AgeIn (rs.take i) tick (tick - z)) ∧ zs.length ≤ 8 * i)
    ⟨l0, [], _, _, _, _, rfl, w.sub (in2 m0 m1), fun z => ⟨fun h => (nomatch h), fun ⟨q, h, _⟩ => (nomatch h)⟩, Nat.le_refl _⟩ (fun i σ H' _ ⟨_, _, _, _, _, _, _, w, _⟩ => w.sq m1) ?_ ?_
  · rintro i y σ H' hi ⟨l, zs, p, c, la, kk, rfl, w, mem, len⟩
    obtain ⟨q, hq, w⟩ := w.itemM (f := eRow) m0 hi
    obtain ⟨t, rfl, ht⟩ := w.ii m0
    have hr1 := hR.row q (List.mem_of_getElem? hq)
    have hi4 : i < 4 := Nat.lt_of_lt_of_le (List.getElem?_eq_some_iff.mp hq).1 hR.len
    refine ⟨t, _, rfl, ht, rfl, _, _, rfl, _, _, rfl, rfl, ?_⟩
    refine ⟨_, rfl, _, rfl, .inl ⟨_, rfl, _, rfl, _, _, rfl, rfl, by show (0 : Int) < q.1; omega, _, _, rfl, rfl, ?_⟩⟩
    refine ⟨_, rfl, _, rfl, q.2, rfl, by omega, by omega, fun D hD => ?_⟩
    refine lc_range (lo := 0) (n := q.2.toNat) (fun j H' => ∃ ys : List Int, Wd K G0 H H' [] [(D, .lst (ys.map V.int)), (l, .lst (zs.map V.int))] [.all xs (eRows rs), .sq a xs] ∧ (∀ z, z ∈ ys ↔ ∃ m : Nat, m < j ∧ z = tick - tick % q.1 - m * q.1 ∧ m * q.1 ≤ tick - tick % q.1) ∧ ys.length ≤ j)
      ⟨[], (w.newM hD (.lst [])).sub (in2 m1 m2), fun z => ⟨fun h => (nomatch h), fun ⟨m, h, _⟩ => absurd h (Nat.not_lt_zero _)⟩, Nat.le_refl _⟩ (fun j H' hj hI => ?_) (fun H' hI => ?_)
    · obtain ⟨ys, w, mem2, len2⟩ := hI
      rw [Int.zero_add]
      refine ⟨rfl, _, rfl, _, rfl, _, rfl, _, _, rfl, rfl, .inl ⟨by omega, by omega⟩, _, _, rfl, rfl, _, rfl, ite2 (fun h => ?_) (fun h => ?_)⟩
      · have h : (j : Int) * q.1 ≤ tick - tick % q.1 := of_decide_eq_true h
        refine ⟨_, rfl, _, rfl, _, rfl, _, _, rfl, rfl, .inl ⟨by omega, by omega⟩, _, _, rfl, rfl, ?_⟩
        refine ⟨_, w.at_ m0, Nat.lt_of_le_of_lt (show _ ≤ 8 by rw [List.length_map]; omega) (by decide), ys ++ [tick - tick % q.1 - j * q.1], ?_, fun z => ?_, by rw [List.length_append]; show ys.length + 1 ≤ j + 1; omega⟩
        · rw [List.map_append]
          exact w.put
        · rw [List.mem_append, List.mem_singleton, mem2 z]
          constructor
          · rintro (⟨m, h1, h2⟩ | h1)
            · exact ⟨m, by omega, h2⟩
            · exact ⟨j, by omega, h1, h⟩
          · rintro ⟨m, h1, h2, h3⟩
            rcases Nat.lt_succ_iff_lt_or_eq.mp h1 with h1 | h1
            · exact .inl ⟨m, h1, h2, h3⟩
            · subst h1
              exact .inr h2
      · have h : ¬ (j : Int) * q.1 ≤ tick - tick % q.1 := fun z => h (decide_eq_true z)
        refine ⟨ys, w, fun z => ?_, by omega⟩
        rw [mem2 z]
        constructor
        · rintro ⟨m, h1, h2⟩
          exact ⟨m, by omega, h2⟩
        · rintro ⟨m, h1, h2, h3⟩
          rcases Nat.lt_succ_iff_lt_or_eq.mp h1 with h1 | h1
          · exact ⟨m, h1, h2, h3⟩
          · subst h1
            exact absurd h3 h
    · obtain ⟨ys, w, mem2, len2⟩ := hI
      refine ⟨l, D, _, _, rfl, rfl, w.at_ m1, w.at_ m0, Nat.le_trans (show _ ≤ 100 by rw [List.length_map, List.length_map]; omega) (by decide), fun l2 hl2 => ?_⟩
      have w := (w.newM hl2 (.lst (zs.map V.int ++ ys.map V.int))).drop (ns := [(l2, .lst (zs.map V.int ++ ys.map V.int))]) (by simp)
      refine ⟨l2, zs ++ ys, _, _, _, _, rfl, by rw [List.map_append]; exact w.sub inAll, fun z => ?_, by rw [List.length_append]; omega⟩
      rw [List.mem_append, mem z, mem2 z, List.take_succ, hq]
      unfold AgeIn
      constructor
      · rintro (⟨q1, h1, h2⟩ | ⟨m, h1, h2, h3⟩)
        · exact ⟨q1, List.mem_append_left _ h1, h2⟩
        · exact ⟨q, List.mem_append_right _ (List.mem_singleton.mpr rfl), (ageBy_iff (by omega)).mpr ⟨m, by omega, by omega, by omega⟩⟩
      · rintro ⟨q1, h1, h2⟩
        rcases List.mem_append.mp h1 with h1 | h1
        · exact .inl ⟨q1, h1, h2⟩
        · have e : q1 = q := List.mem_singleton.mp h1
          subst e
          obtain ⟨m, h3, h4, h5⟩ := (ageBy_iff (by omega)).mp h2
          exact .inr ⟨m, by omega, by omega, by omega⟩
  · rintro σ H' ⟨l, zs, p, c, la, kk, rfl, w, mem, len⟩
    have hl4 := hR.len
    rw [hl, List.take_length] at mem
    have hk : (zs.map Sum.inl : List L2.Key).map kV = zs.map V.int := by rw [List.map_map]; rfl
    refine ⟨_, rfl, l, zs.map Sum.inl, rfl, SqL.of (by rw [hk]; exact w.at_ m0), Nat.lt_of_le_of_lt (show _ ≤ 33 by rw [List.length_map]; omega) (by decide), fun d c0 hd hc0 => ?_⟩
    rw [List.length_map] at hc0
    have w := w.newM hd (SetH w0 d (memK (zs.map Sum.inl)) c0)
    refine ⟨d, _, c0, rfl, w.at_ m0, fun j hj => ?_, fun ms p pw hm hml hp => ?_⟩
    · obtain ⟨i, _, e⟩ := List.mem_map.mp (memK_iff.mp hj)
      exact ⟨i, e.symm⟩
    · refine k _ _ _ (p, ms) ((w.ofInts ms).newL hp m0) (in1 m0) ⟨pw, fun z => ?_, by show ms.length ≤ 32; omega⟩ rfl
      rw [hm z, memK_iff, List.mem_map, ← mem z]
      exact ⟨fun ⟨i, hi, e⟩ => by cases e; exact hi, fun h => ⟨z, h, rfl⟩⟩
end K66
namespace K66
open PySem PySem.Spec PyProof.Rows L2 KX
theorem downs_snoc : ∀ (l : List Int) (b a : Int), downs b (l ++ [a]) = downs b l ++ [l.getLastD b - a]
  | [], b, a => rfl
  | x :: l, b, a => by
    show (b - x) :: downs x (l ++ [a]) = (b - x) :: (downs x l ++ [(x :: l).getLastD b - a])
    rw [downs_snoc l x a]
    cases l <;> rfl
theorem downs_len : ∀ (l : List Int) (b : Int), (downs b l).length = l.length
  | [], _ => rfl
  | a :: l, b => congrArg (· + 1) (downs_len l a)
end K66
namespace K66
open PySem PySem.Spec PyProof.Rows L2 KX
def pr__law_gaps (K : PySem.W.Frag) : Pro (V × List Row × Int) Addr := { args := fun x => [x.1, .int x.2.2], need := fun x => [.one x.1 (eRowsL x.2.1)], pre := fun x => RuleOk x.2.1, val := fun _ y => .ref y, gives := fun x y => [.one (.ref y) (.list ((gapsF x.2.1 x.2.2).map PyData.int))] }
theorem sc__law_gaps : FnScope ["rows", "tick", "found", "newer", "at"] ["rows", "tick"] (defScope s__law_gaps) := ⟨rfl, rfl, rfl, by decide +kernel, rfl, by decide +kernel, by decide +kernel⟩
theorem bi__law_gaps {K : PySem.W.Frag} {mg : Str → Option Value} (T : Txt K mg) : Binds K (fdA K (He.ga K "_law_gaps")) ["rows", "tick"] [] := T.F__law_gaps.bindsN fun _ _ _ _ _ _ us hl => match us, hl with | [_, _], _ => rfl
theorem ok__law_gaps {P : Program} {w0 : World} {K : PySem.W.Frag} {mg : Str → Option Value} {base : Heap} (T : Txt K mg) : FnOk P w0 K mg base CX0 2 (He.ga K "_law_gaps") (fdA K (He.ga K "_law_gaps")) ["rows", "tick"] ((pr__law_gaps K).sp K) := by
  refine T.F__law_gaps.ok sc__law_gaps (fun vs H Q E h => by
    obtain ⟨x, e⟩ := Pro.len h
    rw [e]
    rfl) (fun cdv A outer s0 H vs Q E hr h => ?_)
  obtain ⟨x, G0, rfl, hp, see, w, k⟩ := Pro.use h
  refine ⟨_, PSs.nox (pss_cons (ps_set (i := 2) sc__law_gaps.nd rfl (by first | exact Or.inl rfl | exact Or.inr rfl) (pe_lst pa_nil))
      (pss_cons (ps_set (i := 3) sc__law_gaps.nd rfl (by first | exact Or.inl rfl | exact Or.inr rfl) (pv 1))
      (pss_cons (ps_for PassesOwn.never rfl (pi_reversed (by rfl) T.b_reversed (pa_cons (pe_call (ok__law_stands T) (hr.mono (by decide)) (by rfl) T.g__law_stands T.F__law_stands.kp (bi__law_stands T) .nil pass0 (pa_cons (pv 0) (pa_cons (pv 1) pa_nil))) pa_nil)) (pg_name (i := 4) sc__law_gaps.nd rfl (by first | exact Or.inl rfl | exact Or.inr rfl))
        (pss_cons (ps_expr (pe_bm PySem.F.plainAttrs_list PySem.F.slot_list_append PySem.F.type_list_append mt_append (pv 2) (pa_cons (pe_op op_sub (pv 3) (pv 4)) pa_nil)))
        (pss_one (ps_set (i := 3) sc__law_gaps.nd rfl (by first | exact Or.inl rfl | exact Or.inr rfl) (pv 4)))))
      (pss_one (ps_ret (pv 2)))))), ?_⟩
  obtain ⟨v, rs, tick⟩ := x
  have hR : RuleOk rs := hp
  refine ⟨Nat.zero_le _, fun l hl => ?_⟩
  have w := w.newM hl (.lst [])
  refine ⟨_, rfl, _, rfl, _, rfl, ?_⟩
  refine Pro.call0 (r := pr__law_stands K) (v, rs, tick) w rfl hR inAll fun H1 y w po kp => ?_
  obtain ⟨y, st⟩ := y
  obtain ⟨pw, mem, len⟩ := po
  dsimp only at pw mem len
  obtain ⟨y', xs, e1, hs, hlx, w⟩ := w.lst m0
  cases e1
  have ex := w.ints m0
  subst ex
  refine ⟨y, _, rfl, hs, ?_⟩
  refine RT.for_Itv (K := K) (a := y) (xs := st.map V.int) (fun i σ H' => ∃ at_, σ = [some v, some (.int tick), some (.ref l), some (.int ((st.reverse.take i).getLastD tick)), at_] ∧ Wd K G0 H H' [] [(l, .lst ((downs tick (st.reverse.take i)).map V.int))] [.sq y (st.map V.int)])
    ⟨none, rfl, w.sub (in1 m1)⟩ (fun i σ H' ⟨_, _, w⟩ => w.sq m0) ?_ ?_
  · rintro i x σ H' hi hx ⟨at_, rfl, w⟩
    rw [List.length_map] at hi hx
    rw [List.getElem?_map] at hx
    obtain ⟨z, hz, rfl⟩ := Option.map_eq_some_iff.mp hx
    have hz : st.reverse[i]? = some z := by rw [List.getElem?_reverse hi]; exact hz
    have et : st.reverse.take (i + 1) = st.reverse.take i ++ [z] := by rw [List.take_succ, hz]; rfl
    refine ⟨_, rfl, .inl ⟨rfl, _, SqL.of (w.at_ m0)⟩, _, rfl, _, rfl, _, _, rfl, rfl, l, _, _, rfl, rfl, w.at_ m0, Nat.lt_of_le_of_lt (show _ ≤ 32 by rw [List.length_map, downs_len, List.length_take, List.length_reverse]; omega) (by decide), ?_⟩
    have w := w.put (o' := .lst ((downs tick (st.reverse.take i)).map V.int ++ [.int ((st.reverse.take i).getLastD tick - z)]))
    refine ⟨_, rfl, some (.int z), ?_, ?_⟩
    · have e : (st.reverse.take (i + 1)).getLastD tick = z := by rw [et]; simp
      rw [e]
      rfl
    · rw [et, downs_snoc, List.map_append]
      exact w
  · rintro σ H' ⟨at_, rfl, w⟩
    rw [List.length_map, ← List.length_reverse, List.take_length, stands_gaps hR.row pw mem] at w
    refine ⟨_, rfl, ?_⟩
    exact k _ _ _ l ((w.ofInts (gapsF rs tick)).fixL m0) (in1 m0) trivial rfl
end K66
namespace K66
open PySem PySem.Spec PyProof.Rows L2 KX
theorem first_of {m : Int} : ∀ {l : List Int}, m ∈ l → ∃ j : Nat, l[j]? = some m ∧ ∀ (i : Nat) (z : Int), i < j → l[i]? = some z → z ≠ m
  | x :: l, h => by
    by_cases e : x = m
    · exact ⟨0, by rw [e]; rfl, fun i z hi => absurd hi (Nat.not_lt_zero _)⟩
    · obtain ⟨j, h1, h2⟩ := first_of (l := l) ((List.mem_cons.mp h).resolve_left fun z => e z.symm)
      refine ⟨j + 1, h1, fun i z hi hz => ?_⟩
      cases i with
      | zero =>
        cases hz
        exact e
      | succ i => exact h2 i z (by omega) hz
end K66
namespace K66
open PySem PySem.Spec PyProof.Rows L2 KX
def pr__law_greatest (K : PySem.W.Frag) : Pro (V × List (List Int) × Int × Int) (Addr × Int × Nat) := { args := fun x => [x.1, .int x.2.2.1, .int x.2.2.2], need := fun x => [.one x.1 (.list (x.2.1.map fun l => .list (l.map PyData.int)))], pre := fun x => 1 ≤ x.2.2.1 ∧ x.2.2.1 ≤ 1000 ∧ 1 ≤ x.2.2.2 ∧ x.2.2.2 ≤ 1000 ∧ (∀ l ∈ x.2.1, l.length ≤ 1600) ∧ 0 < x.2.1.length ∧ x.2.1.length ≤ 3000, val := fun _ y => .ref y.1, gives := fun _ y => [.one (.ref y.1) (.tuple [.int y.2.1, .int y.2.2])], post := fun x y => Best (fun j => roomG (x.2.1.getD j []) x.2.2.1 x.2.2.2) x.2.1.length y.2.1 y.2.2 }
theorem sc__law_greatest : FnScope ["table", "pages", "rate", "rooms", "gaps", "most"] ["table", "pages", "rate"] (defScope s__law_greatest) := ⟨rfl, rfl, rfl, by decide +kernel, rfl, by decide +kernel, by decide +kernel⟩
theorem bi__law_greatest {K : PySem.W.Frag} {mg : Str → Option Value} (T : Txt K mg) : Binds K (fdA K (He.ga K "_law_greatest")) ["table", "pages", "rate"] [] := T.F__law_greatest.bindsN fun _ _ _ _ _ _ us hl => match us, hl with | [_, _, _], _ => rfl
theorem ok__law_greatest {P : Program} {w0 : World} {K : PySem.W.Frag} {mg : Str → Option Value} {base : Heap} (T : Txt K mg) : FnOk P w0 K mg base CX0 2 (He.ga K "_law_greatest") (fdA K (He.ga K "_law_greatest")) ["table", "pages", "rate"] ((pr__law_greatest K).sp K) := by
  refine T.F__law_greatest.ok sc__law_greatest (fun vs H Q E h => by
    obtain ⟨x, e⟩ := Pro.len h
    rw [e]
    rfl) (fun cdv A outer s0 H vs Q E hr h => ?_)
  obtain ⟨x, G0, rfl, hp, see, w, k⟩ := Pro.use h
  refine ⟨_, PSs.nox (pss_cons (ps_setLc (i := 3) (own := [("gaps", 4)]) (g := (gName 4)) rfl sc__law_greatest.nd rfl rfl (sw_true rfl rfl rfl (by decide +kernel)) (pi_list (pv 0)) (blkOk_by (N := ["table", "pages", "rate", "rooms", "gaps", "most"]) (sc := defScope s__law_greatest) (by decide +kernel)) (fun _ _ _ _ _ => (pg_name (i := 4) sc__law_greatest.nd rfl (by first | exact Or.inl rfl | exact Or.inr rfl))) (fun _ _ _ _ _ => pts_nil) (fun _ _ _ _ _ => (pe_call (ok__law_room T) (hr.mono (by decide)) (by rfl) T.g__law_room T.F__law_room.kp (bi__law_room T) .nil pass0 (pa_cons (pv 4) (pa_cons (pv 1) (pa_cons (pv 2) pa_nil))))))
      (pss_cons (ps_set (i := 5) sc__law_greatest.nd rfl (by first | exact Or.inl rfl | exact Or.inr rfl) (pe_callB (cr_max rfl) (by rfl) T.b_max (by decide +kernel) (pa_cons (pv 3) pa_nil)))
      (pss_one (ps_ret (pe_tup (pa_cons (pv 5) (pa_cons (pe_bm PySem.F.plainAttrs_list PySem.F.slot_list_index PySem.F.type_list_index mt_index (pv 3) (pa_cons (pv 5) pa_nil)) pa_nil))))))), ?_⟩
  obtain ⟨v, tb, pages, rate⟩ := x
  obtain ⟨hp1, hp2, hr1, hr2, hg, hg0, hgl⟩ := hp
  dsimp only at hp1 hp2 hr1 hr2 hg hg0 hgl
  obtain ⟨a, xs, e1, hs, hlx, w⟩ := w.lst m0
  have e1 : v = .ref a := e1
  subst e1
  have hlx : xs.length = tb.length := w.lenM m0
  refine ⟨_, rfl, a, rfl, ⟨_, hs⟩, fun D hD => ?_⟩
  refine lc_list (K := K) (a := a) (xs := xs) (fun i H' => Wd K G0 H H' [] [(D, .lst (((tb.take i).map fun l => roomG l pages rate).map V.int))] [.all xs (tb.map fun l => .list (l.map PyData.int)), .sq a xs]) ((w.newM hD (.lst [])).sub (in2 m0 m1)) (fun i H' _ w => w.sq m1) (fun i x H' hi w => ?_) (fun H' w => ?_)
  · obtain ⟨g, hg1, w⟩ := w.itemM (f := fun l : List Int => .list (l.map PyData.int)) m0 hi
    have hil : i < tb.length := (List.getElem?_eq_some_iff.mp hg1).1
    refine ⟨rfl, yesL ⟨_, rfl, _, rfl, _, rfl, ?_⟩⟩
    refine Pro.call0 (r := pr__law_room K) (x, g, pages, rate) w rfl ⟨hp1, hp2, hr1, hr2, hg g (List.mem_of_getElem? hg1)⟩ (in1 m0) fun H1 _ w _ kp => ?_
    refine ⟨_, w.at_ m0, Nat.lt_of_le_of_lt (show _ ≤ 3000 by rw [List.length_map, List.length_map, List.length_take]; omega) (by decide), ?_⟩
    have e : ((tb.take (i + 1)).map fun l => roomG l pages rate).map V.int = ((tb.take i).map fun l => roomG l pages rate).map V.int ++ [V.int (roomG g pages rate)] := by
      rw [List.take_succ, hg1, List.map_append, List.map_append]
      rfl
    rw [e]
    exact w.put.sub (in2 m1 m2)
  · rw [hlx, List.take_length] at w
    refine ⟨_, rfl, D, tb.map fun l => roomG l pages rate, rfl, SqL.of (w.at_ m0), by rw [List.length_map]; exact hg0, fun m hm hle => ?_⟩
    obtain ⟨j, hj1, hj2⟩ := first_of hm
    refine ⟨_, rfl, _, rfl, .inl ⟨rfl, _, SqL.of (w.at_ m0)⟩, _, rfl, D, _, .int m, j, .int m, rfl, rfl, SqL.of (w.at_ m0), rfl, ?_, by rw [List.getElem?_map, hj1]; rfl, ?_, fun i z' hi hz => ?_, by show 2 ≤ sizeLine; decide, fun t ht => ?_⟩
    · rw [List.all_map, List.all_eq_true]
      exact fun _ _ => rfl
    · show decide _ = true
      exact decide_eq_true rfl
    · rw [List.getElem?_map] at hz
      obtain ⟨z, hz1, rfl⟩ := Option.map_eq_some_iff.mp hz
      show (z == m) = false
      exact beq_false_of_ne (hj2 i z hi hz1)
    · have w := (w.ofInts [m, (j : Int)]).newT ht m0
      have hjl : j < tb.length := by
        have := (List.getElem?_eq_some_iff.mp hj1).1
        rw [List.length_map] at this
        exact this
      have fg : ∀ i, i < tb.length → (tb.map fun l => roomG l pages rate)[i]? = some (roomG (tb.getD i []) pages rate) := fun i hi => by
        rw [List.getElem?_map, List.getElem?_eq_getElem hi, List.getD_eq_getElem?_getD, List.getElem?_eq_getElem hi]
        rfl
      refine k _ _ _ (t, m, j) w (in1 m0) ⟨hjl, ?_, fun i hi => hle _ (List.mem_of_getElem? (fg i hi)), fun i hi => ?_⟩ rfl
      · have z := fg j hjl
        rw [hj1] at z
        cases z
        rfl
      · have hi : i < j := hi
        have z := fg i (by omega)
        have z1 := hj2 i _ hi z
        have z2 := hle _ (List.mem_of_getElem? z)
        show roomG (tb.getD i []) pages rate < m
        omega
end K66

namespace K66
open PySem PySem.Spec PyProof.Rows L2 KX
theorem m9 {α : Type} {a b c d e f g h i j : α} {l : List α} : j ∈ a :: b :: c :: d :: e :: f :: g :: h :: i :: j :: l := .tail _ m8
theorem m10 {α : Type} {a b c d e f g h i j k : α} {l : List α} : k ∈ a :: b :: c :: d :: e :: f :: g :: h :: i :: j :: k :: l := .tail _ m9
theorem m11 {α : Type} {a b c d e f g h i j k o : α} {l : List α} : o ∈ a :: b :: c :: d :: e :: f :: g :: h :: i :: j :: k :: o :: l := .tail _ m10
theorem m12 {α : Type} {a b c d e f g h i j k o p : α} {l : List α} : p ∈ a :: b :: c :: d :: e :: f :: g :: h :: i :: j :: k :: o :: p :: l := .tail _ m11
theorem m13 {α : Type} {a b c d e f g h i j k o p q : α} {l : List α} : q ∈ a :: b :: c :: d :: e :: f :: g :: h :: i :: j :: k :: o :: p :: q :: l := .tail _ m12
theorem inC {α : Type} {a : α} {l m : List α} (h : a ∈ l) (t : ∀ p ∈ m, p ∈ l) : ∀ p ∈ a :: m, p ∈ l := fun p hp => by
  rcases List.mem_cons.mp hp with e | e
  · rw [e]; exact h
  · exact t p e
theorem inR {α : Type} {a b : List α} : ∀ p ∈ b, p ∈ a ++ b := fun _ h => List.mem_append_right _ h
theorem inRR {α : Type} {a b c : List α} : ∀ p ∈ c, p ∈ a ++ (b ++ c) := fun _ h => List.mem_append_right _ (List.mem_append_right _ h)
theorem cut_mem {xs : List V} {lo hi : Option Int} {x : V} (h : x ∈ cutV xs lo hi) : x ∈ xs := by
  unfold cutV at h
  exact List.mem_of_mem_drop (List.mem_of_mem_take h)
def ticks (a b c d : Int) : List Int := [0, a, b, (if b - 1 > 0 then b - 1 else 0), c, d, 10 ^ Int.toNat 9]
structure Due where
  k : Nat
  p : Int
  r : Int
  b : Int
  i : Nat
def eDue (d : Due) : PyData := .tuple [.int (d.k : Int), .int d.p, .int d.r, .tuple [.int d.b, .int (d.i : Int)]]
/-- of these rows, pages, rate: the greatest and its first tick -/
def GreatAt (rs : List Row) (p r b : Int) (i : Nat) : Prop := ∃ q m n, rs.getLast? = some q ∧ IsMax (prods rs) m ∧ ((n : Nat) : Int) = m + q.1 ∧ Best (fun j => roomF rs (j : Int) p r) n b i
theorem GreatAt.eq {rs : List Row} {p r b b' : Int} {i i' : Nat} (h : GreatAt rs p r b i) (h' : GreatAt rs p r b' i') : b = b' ∧ i = i' := by
  obtain ⟨q, m, n, hq, hm, hn, hb⟩ := h
  obtain ⟨q', m', n', hq', hm', hn', hb'⟩ := h'
  rw [hq] at hq'
  cases hq'
  have := hm.eq hm'
  subst this
  have : n = n' := by omega
  subst this
  exact hb.eq hb'
def B1 (x : Int) : Prop := 1 ≤ x ∧ x ≤ 1000
structure DueOk (rs0 rs1 : List Row) (d : Due) : Prop where
  k : d.k < 2
  p : B1 d.p
  r : B1 d.r
  g : GreatAt (if d.k = 0 then rs0 else rs1) d.p d.r d.b d.i
theorem Best.congr {f g : Nat → Int} {n i : Nat} {m : Int} (h : Best f n m i) (e : ∀ j, j < n → f j = g j) : Best g n m i :=
  ⟨h.lt, (e i h.lt) ▸ h.at_, fun j hj => (e j hj) ▸ h.le j hj, fun j hj => (e j (Nat.lt_trans hj h.lt)) ▸ h.first j hj⟩
def eSize (z : Int × Int) : PyData := .tuple [.int z.1, .int z.2]
theorem isD_rows (rs : List Row) (h : rs.length ≤ 4) : isD 2 (.tuple (eRows rs)) = true := by
  show (decide ((eRows rs).length < 100000) && (eRows rs).all (isD 1)) = true
  rw [Bool.and_eq_true]
  refine ⟨decide_eq_true (by unfold eRows; rw [List.length_map]; omega), ?_⟩
  unfold eRows
  rw [List.all_map, List.all_eq_true]
  exact fun _ _ => rfl
end K66
namespace K66
open PySem PySem.Spec PyProof.Rows L2 KX
def pr_law (K : PySem.W.Frag) : Pro (V × List Int) Unit := { args := fun x => [x.1], need := fun x => [.one x.1 (.list (x.2.map PyData.int))], val := fun _ _ => .bl true }
theorem sc_law : FnScope ["script", "state", "most", "drawn", "sizes", "rules", "dues", "k", "rows", "period", "settled", "table", "near", "late", "far", "pages", "rate", "due", "tick", "room", "told", "step", "count"] ["script"] (defScope s_law) := ⟨rfl, rfl, rfl, by decide +kernel, rfl, by decide +kernel, by decide +kernel⟩
theorem bi_law {K : PySem.W.Frag} {mg : Str → Option Value} (T : Txt K mg) : Binds K (fdA K (He.ga K "law")) ["script"] [] := T.F_law.bindsN fun _ _ _ _ _ _ us hl => match us, hl with | [_], _ => rfl
theorem ok_law {P : Program} {w0 : World} {K : PySem.W.Frag} {mg : Str → Option Value} {base : Heap} (T : Txt K mg) : FnOk P w0 K mg base CX0 5 (He.ga K "law") (fdA K (He.ga K "law")) ["script"] ((pr_law K).sp K) := by
  refine T.F_law.ok sc_law (fun vs H Q E h => by
    obtain ⟨x, e⟩ := Pro.len h
    rw [e]
    rfl) (fun cdv A outer s0 H vs Q E hr h => ?_)
  obtain ⟨x, G0, rfl, hp, see, w, k⟩ := Pro.use h
  refine ⟨_, PSs.nox (pss_cons (ps_set (i := 1) sc_law.nd rfl (by first | exact Or.inl rfl | exact Or.inr rfl) (pe_call (ok__law_start T) (hr.mono (by decide)) (by rfl) T.g__law_start T.F__law_start.kp (bi__law_start T) .nil pass0 (pa_cons (pv 0) pa_nil)))
      (pss_cons (ps_set (i := 2) sc_law.nd rfl (by first | exact Or.inl rfl | exact Or.inr rfl) pe_int)
      (C8.pss_cut (ps_if (pt_cmpR op_eq (pe_call (ok__law_next T) (hr.mono (by decide)) (by rfl) T.g__law_next T.F__law_next.kp (bi__law_next T) .nil pass0 (pa_cons (pv 1) (pa_cons pe_int pa_nil))) pe_int (nomark _))
        (pss_one (ps_set (i := 2) sc_law.nd rfl (by first | exact Or.inl rfl | exact Or.inr rfl) pe_int))
        pss_nil)
      (pss_cons (ps_set (i := 3) sc_law.nd rfl (by first | exact Or.inl rfl | exact Or.inr rfl) (pe_lst (pa_cons (pe_call (ok__law_rule T) (hr.mono (by decide)) (by rfl) T.g__law_rule T.F__law_rule.kp (bi__law_rule T) .nil pass0 (pa_cons (pv 1) (pa_cons (pv 2) pa_nil))) (pa_cons (pe_call (ok__law_rule T) (hr.mono (by decide)) (by rfl) T.g__law_rule T.F__law_rule.kp (bi__law_rule T) .nil pass0 (pa_cons (pv 1) (pa_cons pe_int pa_nil))) pa_nil))))
      (pss_cons (ps_set (i := 4) sc_law.nd rfl (by first | exact Or.inl rfl | exact Or.inr rfl) (pe_lst (pa_cons (pe_tup (pa_cons (pe_call (ok__law_size T) (hr.mono (by decide)) (by rfl) T.g__law_size T.F__law_size.kp (bi__law_size T) .nil pass0 (pa_cons (pv 1) pa_nil)) (pa_cons (pe_call (ok__law_size T) (hr.mono (by decide)) (by rfl) T.g__law_size T.F__law_size.kp (bi__law_size T) .nil pass0 (pa_cons (pv 1) pa_nil)) pa_nil))) (pa_cons (pe_tup (pa_cons (pe_call (ok__law_size T) (hr.mono (by decide)) (by rfl) T.g__law_size T.F__law_size.kp (bi__law_size T) .nil pass0 (pa_cons (pv 1) pa_nil)) (pa_cons (pe_call (ok__law_size T) (hr.mono (by decide)) (by rfl) T.g__law_size T.F__law_size.kp (bi__law_size T) .nil pass0 (pa_cons (pv 1) pa_nil)) pa_nil))) pa_nil))))
      (pss_cons (ps_set (i := 5) sc_law.nd rfl (by first | exact Or.inl rfl | exact Or.inr rfl) (pe_lst (pa_cons (pe_make T.mk_Rule (ok_Rule___init__ T) (hr.mono (by decide)) (by rfl) T.g_Rule (bi_Rule___init__ T) .nil pass0 (pa_cons (pe_callTy call_list_of (by rfl) T.b_list (by decide +kernel) (pa_cons (pe_ix ix_list (pv 3) pe_int (fun _ _ => rfl)) pa_nil)) pa_nil)) (pa_cons (pe_make T.mk_Rule (ok_Rule___init__ T) (hr.mono (by decide)) (by rfl) T.g_Rule (bi_Rule___init__ T) .nil pass0 (pa_cons (pe_callTy call_list_of (by rfl) T.b_list (by decide +kernel) (pa_cons (pe_ix ix_list (pv 3) pe_int (fun _ _ => rfl)) pa_nil)) pa_nil)) pa_nil))))
      (pss_cons (ps_set (i := 6) sc_law.nd rfl (by first | exact Or.inl rfl | exact Or.inr rfl) (pe_lst pa_nil))
      (pss_cons (ps_for PassesOwn.never rfl (pi_range1 (by rfl) T.b_range (pa_cons pe_int pa_nil)) (pg_name (i := 7) sc_law.nd rfl (by first | exact Or.inl rfl | exact Or.inr rfl))
        (pss_cons (ps_set (i := 8) sc_law.nd rfl (by first | exact Or.inl rfl | exact Or.inr rfl) (pe_ix ix_list (pv 3) (pv 7) (fun _ _ => rfl)))
        (pss_cons (ps_set (i := 9) sc_law.nd rfl (by first | exact Or.inl rfl | exact Or.inr rfl) (pe_ix ix_tup (pe_ix ix_list (pv 8) (pe_un un_neg pe_int) (fun _ _ => rfl)) pe_int (fun _ _ => rfl)))
        (pss_cons (ps_set (i := 10) sc_law.nd rfl (by first | exact Or.inl rfl | exact Or.inr rfl) (pe_callB (cr_max rfl) (by rfl) T.b_max (by decide +kernel) (pa_cons (pe_lc (own := [("step", 21), ("count", 22)]) (g := (gTup K 2 (gCons (gName 21) (gCons (gName 22) gNil)))) rfl sc_law.nd (pi_list (pv 8)) (blkOk_by (N := ["script", "state", "most", "drawn", "sizes", "rules", "dues", "k", "rows", "period", "settled", "table", "near", "late", "far", "pages", "rate", "due", "tick", "room", "told", "step", "count"]) (sc := defScope s_law) (by decide +kernel)) (fun _ _ _ _ _ => (pg_tup rfl (pgs_cons (pg_name (i := 21) sc_law.nd rfl (by first | exact Or.inl rfl | exact Or.inr rfl)) (pgs_cons (pg_name (i := 22) sc_law.nd rfl (by first | exact Or.inl rfl | exact Or.inr rfl)) pgs_nil)))) (fun _ _ _ _ _ => pts_nil) (fun _ _ _ _ _ => (pe_op op_mul (pv 21) (pv 22)))) pa_nil)))
        (pss_cons (ps_setLc (i := 11) (own := [("tick", 18)]) (g := (gName 18)) rfl sc_law.nd rfl rfl (sw_true rfl rfl rfl (by decide +kernel)) (pi_range1 (by rfl) T.b_range (pa_cons (pe_op op_add (pv 10) (pv 9)) pa_nil)) (blkOk_by (N := ["script", "state", "most", "drawn", "sizes", "rules", "dues", "k", "rows", "period", "settled", "table", "near", "late", "far", "pages", "rate", "due", "tick", "room", "told", "step", "count"]) (sc := defScope s_law) (by decide +kernel)) (fun _ _ _ _ _ => (pg_name (i := 18) sc_law.nd rfl (by first | exact Or.inl rfl | exact Or.inr rfl))) (fun _ _ _ _ _ => pts_nil) (fun _ _ _ _ _ => (pe_call (ok__law_gaps T) (hr.mono (by decide)) (by rfl) T.g__law_gaps T.F__law_gaps.kp (bi__law_gaps T) .nil pass0 (pa_cons (pv 8) (pa_cons (pv 18) pa_nil)))))
        (pss_cons (ps_set (i := 12) sc_law.nd rfl (by first | exact Or.inl rfl | exact Or.inr rfl) (pe_call (ok__law_next T) (hr.mono (by decide)) (by rfl) T.g__law_next T.F__law_next.kp (bi__law_next T) .nil pass0 (pa_cons (pv 1) (pa_cons (pe_op op_add (pv 10) (pv 9)) pa_nil))))
        (pss_cons (ps_set (i := 13) sc_law.nd rfl (by first | exact Or.inl rfl | exact Or.inr rfl) (pe_op op_add (pv 10) (pe_call (ok__law_next T) (hr.mono (by decide)) (by rfl) T.g__law_next T.F__law_next.kp (bi__law_next T) .nil pass0 (pa_cons (pv 1) (pa_cons (pe_op op_mul pe_int (pv 9)) pa_nil)))))
        (pss_cons (ps_set (i := 14) sc_law.nd rfl (by first | exact Or.inl rfl | exact Or.inr rfl) (pe_op op_add (pv 13) (pe_op op_mul (pv 9) (pe_op op_add pe_int (pe_call (ok__law_next T) (hr.mono (by decide)) (by rfl) T.g__law_next T.F__law_next.kp (bi__law_next T) .nil pass0 (pa_cons (pv 1) (pa_cons (pe_op op_pow pe_int pe_int) pa_nil)))))))
        (pss_one (ps_for PassesOwn.never rfl (pi_list (pe_slice sl_list (pv 4) (po_some (pv 7)) po_none)) (pg_tup rfl (pgs_cons (pg_name (i := 15) sc_law.nd rfl (by first | exact Or.inl rfl | exact Or.inr rfl)) (pgs_cons (pg_name (i := 16) sc_law.nd rfl (by first | exact Or.inl rfl | exact Or.inr rfl)) pgs_nil)))
          (pss_cons (ps_set (i := 17) sc_law.nd rfl (by first | exact Or.inl rfl | exact Or.inr rfl) (pe_call (ok__law_greatest T) (hr.mono (by decide)) (by rfl) T.g__law_greatest T.F__law_greatest.kp (bi__law_greatest T) .nil pass0 (pa_cons (pv 11) (pa_cons (pv 15) (pa_cons (pv 16) pa_nil)))))
          (pss_cons (ps_expr (pe_bm PySem.F.plainAttrs_list PySem.F.slot_list_append PySem.F.type_list_append mt_append (pv 6) (pa_cons (pe_tup (pa_cons (pv 7) (pa_cons (pv 15) (pa_cons (pv 16) (pa_cons (pv 17) pa_nil))))) pa_nil)))
          (pss_cons (ps_if (pt_not (pt_val (pe_call (ok__law_is T) (hr.mono (by decide)) (by rfl) T.g__law_is T.F__law_is.kp (bi__law_is T) .nil pass0 (pa_cons (pe_call (ok_greatest_room T) (hr.mono (by decide)) (by rfl) T.g_greatest_room T.F_greatest_room.kp (bi_greatest_room T) .nil pass0 (pa_cons (pe_ix ix_list (pv 5) (pv 7) (fun _ _ => rfl)) (pa_cons (pv 15) (pa_cons (pv 16) pa_nil)))) (pa_cons (pv 17) pa_nil)))))
            (pss_one (ps_ret pe_bl))
            pss_nil)
          (pss_one (ps_for PassesOwn.never rfl (pi_list (pe_lst (pa_cons pe_int (pa_cons (pv 12) (pa_cons (pe_ix ix_tup (pv 17) pe_int (fun _ _ => rfl)) (pa_cons (pe_callB (call_max2 rfl) (by rfl) T.b_max (by decide +kernel) (pa_cons pe_int (pa_cons (pe_op op_sub (pe_ix ix_tup (pv 17) pe_int (fun _ _ => rfl)) pe_int) pa_nil))) (pa_cons (pv 13) (pa_cons (pv 14) (pa_cons (pe_op op_pow pe_int pe_int) pa_nil))))))))) (pg_name (i := 18) sc_law.nd rfl (by first | exact Or.inl rfl | exact Or.inr rfl))
            (pss_cons (ps_set (i := 19) sc_law.nd rfl (by first | exact Or.inl rfl | exact Or.inr rfl) (pe_call (ok__law_room T) (hr.mono (by decide)) (by rfl) T.g__law_room T.F__law_room.kp (bi__law_room T) .nil pass0 (pa_cons (pe_call (ok__law_gaps T) (hr.mono (by decide)) (by rfl) T.g__law_gaps T.F__law_gaps.kp (bi__law_gaps T) .nil pass0 (pa_cons (pv 8) (pa_cons (pv 18) pa_nil))) (pa_cons (pv 15) (pa_cons (pv 16) pa_nil)))))
            (pss_cons (ps_set (i := 20) sc_law.nd rfl (by first | exact Or.inl rfl | exact Or.inr rfl) (pe_call (ok_room_at T) (hr.mono (by decide)) (by rfl) T.g_room_at T.F_room_at.kp (bi_room_at T) .nil pass0 (pa_cons (pe_ix ix_list (pv 5) (pv 7) (fun _ _ => rfl)) (pa_cons (pv 18) (pa_cons (pv 15) (pa_cons (pv 16) pa_nil))))))
            (pss_cons (ps_if (PW.pt (pw_or (pt_not (pt_val (pe_call (ok__law_is T) (hr.mono (by decide)) (by rfl) T.g__law_is T.F__law_is.kp (bi__law_is T) .nil pass0 (pa_cons (pv 20) (pa_cons (pv 19) pa_nil))))) (pw_or1 (pt_cmpR op_gt (pv 20) (pe_ix ix_tup (pv 17) pe_int (fun _ _ => rfl)) (nomark _)))))
              (pss_one (ps_ret pe_bl))
              pss_nil)
            (pss_one (ps_if (PW.pt (pw_or (PW.pt (pw_and (pt_cmpR op_lt (pv 18) (pe_ix ix_tup (pv 17) pe_int (fun _ _ => rfl)) (nomark _)) (pw_and1 (pt_cmpR op_ge (pv 20) (pe_ix ix_tup (pv 17) pe_int (fun _ _ => rfl)) (nomark _))))) (pw_or1 (PW.pt (pw_and (pt_cmpR op_eq (pv 18) (pe_ix ix_tup (pv 17) pe_int (fun _ _ => rfl)) (nomark _)) (pw_and1 (pt_cmpR op_ne (pv 20) (pe_ix ix_tup (pv 17) pe_int (fun _ _ => rfl)) (nomark _))))))))
              (pss_one (ps_ret pe_bl))
              pss_nil))))))))))))))))))))
      (pss_cons (ps_for PassesOwn.never rfl (pi_list (pe_slice sl_list (pv 6) (po_some (pe_un un_neg pe_int)) po_none)) (pg_tup rfl (pgs_cons (pg_name (i := 7) sc_law.nd rfl (by first | exact Or.inl rfl | exact Or.inr rfl)) (pgs_cons (pg_name (i := 15) sc_law.nd rfl (by first | exact Or.inl rfl | exact Or.inr rfl)) (pgs_cons (pg_name (i := 16) sc_law.nd rfl (by first | exact Or.inl rfl | exact Or.inr rfl)) (pgs_cons (pg_name (i := 17) sc_law.nd rfl (by first | exact Or.inl rfl | exact Or.inr rfl)) pgs_nil)))))
        (pss_one (ps_if (pt_not (pt_val (pe_call (ok__law_is T) (hr.mono (by decide)) (by rfl) T.g__law_is T.F__law_is.kp (bi__law_is T) .nil pass0 (pa_cons (pe_call (ok_greatest_room T) (hr.mono (by decide)) (by rfl) T.g_greatest_room T.F_greatest_room.kp (bi_greatest_room T) .nil pass0 (pa_cons (pe_ix ix_list (pv 5) (pv 7) (fun _ _ => rfl)) (pa_cons (pv 15) (pa_cons (pv 16) pa_nil)))) (pa_cons (pv 17) pa_nil)))))
          (pss_one (ps_ret pe_bl))
          pss_nil)))
      (pss_one (ps_ret (pe_and (pe_call (ok__law_is T) (hr.mono (by decide)) (by rfl) T.g__law_is T.F__law_is.kp (bi__law_is T) .nil pass0 (pa_cons (pe_fld (pe_ix ix_list (pv 5) pe_int (fun _ _ => rfl)) rfl) (pa_cons (pe_callTy call_tuple_of (by rfl) T.b_tuple (by decide +kernel) (pa_cons (pe_ix ix_list (pv 3) pe_int (fun _ _ => rfl)) pa_nil)) pa_nil))) (pe_one (pe_call (ok__law_is T) (hr.mono (by decide)) (by rfl) T.g__law_is T.F__law_is.kp (bi__law_is T) .nil pass0 (pa_cons (pe_fld (pe_ix ix_list (pv 5) pe_int (fun _ _ => rfl)) rfl) (pa_cons (pe_callTy call_tuple_of (by rfl) T.b_tuple (by decide +kernel) (pa_cons (pe_ix ix_list (pv 3) pe_int (fun _ _ => rfl)) pa_nil)) pa_nil)))))))))))))))), ?_⟩
  obtain ⟨v, script⟩ := x
  obtain ⟨sa, sv, e1, hs, hl, w⟩ := w.lst m0
  have e1 : v = .ref sa := e1
  subst e1
  refine ⟨_, rfl, ?_⟩
  refine Pro.call0 (r := pr__law_start K) (sa, script) w rfl trivial (in1 m2) fun H1 y w _ _ => ?_
  obtain ⟨s, scr⟩ := y
  obtain ⟨G, w, back⟩ := Wd.rebase (P := IsSt scr) (w.sub (qs := [.one (.ref scr) (.list (script.map PyData.int))]) (in1 m0)) ⟨0, 0, 0, rfl, by omega⟩
  have fin : ∀ (H' : Hp) (ms' : ML) (ps' : List Pf), Wd K G H1 H' [(s, IsSt scr)] ms' ps' → Q (.bl true) H' := fun H' ms' ps' w => k H' [] ps' () (back _ _ _ w) in0 trivial rfl
  clear back k
  refine ⟨fun σ' H' => ∃ most : Int, σ' = some (.ref sa) :: some (.ref s) :: some (.int most) :: List.replicate 20 none ∧ Wd K G H1 H' [(s, IsSt scr)] [] [.one (.ref scr) (.list (script.map PyData.int))] ∧ 1 ≤ most ∧ most ≤ 200, ?_, ?_⟩
  · refine ⟨_, rfl, ?_⟩
    refine Pro.callX (r := pr__law_next K) (⟨s, scr, script⟩, 32) w rfl (lim9 (x := 32) (by decide) (by decide)) inAll fun H2 r w hr1 => ?_
    exact ⟨rfl, _, rfl, ite2 (fun _ => ⟨200, rfl, w.sub inAll, by decide, by decide⟩) (fun _ => ⟨16, rfl, w.sub inAll, by decide, by decide⟩)⟩
  rintro σ' H2 ⟨most, rfl, w, hm1, hm2⟩
  refine ⟨_, rfl, _, rfl, ?_⟩
  refine Pro.callX (r := pr__law_rule K) (⟨s, scr, script⟩, most) w rfl ⟨hm1, hm2⟩ inAll fun H3 y w hR0 => ?_
  obtain ⟨l0, rs0⟩ := y
  have hR0 : RuleOk rs0 := hR0
  refine ⟨_, rfl, ?_⟩
  refine Pro.callX (r := pr__law_rule K) (⟨s, scr, script⟩, 16) w rfl ⟨by show (1 : Int) ≤ 16; decide, by show (16 : Int) ≤ 200; decide⟩ (in1 m1) fun H4 y w hR1 => ?_
  obtain ⟨l1, rs1⟩ := y
  have hR1 : RuleOk rs1 := hR1
  refine ⟨by show 2 ≤ sizeLine; decide, fun dr hdr => ?_⟩
  have w := ((w.nil.cons (u := .ref l1) (e := eRowsL rs1) m1 m0).cons (u := .ref l0) (e := eRowsL rs0) m3 m0).newL hdr m0
  refine ⟨_, rfl, ?_⟩
  have w := w.sub (qs := [.one (.ref dr) (.list [eRowsL rs0, eRowsL rs1]), .one (.ref scr) (.list (script.map PyData.int))]) (in2 m0 m6)
  refine Pro.callX (r := pr__law_size K) ⟨s, scr, script⟩ w rfl trivial (in1 m1) fun H5 p0 w hp0 => ?_
  have hp0 : B1 p0 := hp0
  refine ⟨_, rfl, ?_⟩
  refine Pro.callX (r := pr__law_size K) ⟨s, scr, script⟩ w rfl trivial (in1 m1) fun H6 q0 w hq0 => ?_
  have hq0 : B1 q0 := hq0
  refine ⟨by show 2 ≤ sizeLine; decide, fun z0 hz0 => ?_⟩
  have w := (w.ofInts [p0, q0]).newT hz0 m0
  refine ⟨_, rfl, ?_⟩
  refine Pro.callX (r := pr__law_size K) ⟨s, scr, script⟩ w rfl trivial (in1 m3) fun H7 p1 w hp1 => ?_
  have hp1 : B1 p1 := hp1
  refine ⟨_, rfl, ?_⟩
  refine Pro.callX (r := pr__law_size K) ⟨s, scr, script⟩ w rfl trivial (in1 m3) fun H8 q1 w hq1 => ?_
  have hq1 : B1 q1 := hq1
  refine ⟨by show 2 ≤ sizeLine; decide, fun z1 hz1 => ?_⟩
  have w := (w.ofInts [p1, q1]).newT hz1 m0
  refine ⟨by show 2 ≤ sizeLine; decide, fun sz hsz => ?_⟩
  have w := ((w.nil.cons (u := .ref z1) (e := eSize (p1, q1)) m1 m0).cons (u := .ref z0) (e := eSize (p0, q0)) m4 m0).newL hsz m0
  have w := w.sub (qs := [.one (.ref sz) (.list [eSize (p0, q0), eSize (p1, q1)]), .one (.ref dr) (.list [eRowsL rs0, eRowsL rs1]), .one (.ref scr) (.list (script.map PyData.int))]) (in3 m0 m8 m9)
  obtain ⟨dr', dvs, e1, hds, _, w⟩ := w.lst m1
  cases e1
  have hl2 : dvs.length = 2 := dpaLen (w.all m0)
  obtain ⟨u0, u1, rfl⟩ : ∃ u0 u1, dvs = [u0, u1] := by
    match dvs, hl2 with
    | [a, b], _ => exact ⟨a, b, rfl⟩
  obtain ⟨c0, e0, w⟩ := w.item (i := 0) m0 rfl
  cases e0
  obtain ⟨c1, e1, w⟩ := w.item (i := 1) m1 rfl
  cases e1
  obtain ⟨a0, xs0, e0, hs0, hl0, w⟩ := w.lst m1
  cases e0
  refine ⟨_, rfl, _, _, _, _, rfl, rfl, hds, rfl, _, _, rfl, .inl hs0, fun n0 hn0 => ?_⟩
  have w := w.newL hn0 m0
  intro r0 d0 hr0 hd0 hne0
  have w := (w.newO hd0 (.own r0)).newM (p := r0) ((upd_ne (fun z => hne0 z.symm)).trans hr0) (.ins (He.ga K "Rule") d0 [])
  refine Pro.callM (r := pr_Rule___init__ K) (P := fun o => o = .ins (He.ga K "Rule") d0 []) (r0, d0, n0, rs0) w rfl rfl hR0 (in1 m1) fun H9 y0 o0 hst hat w _ _ => ?_
  obtain ⟨_, hat2, rfl⟩ := hst _ (.head _)
  rw [hat] at hat2
  cases hat2
  have w := w.fix.sub (qs := [.obj r0 (.ins (He.ga K "Rule") d0 [("rows", .ref y0)]), .one (.ref y0) (.tuple (eRows rs0)), .one u1 (eRowsL rs1), .all [.ref a0, u1] [eRowsL rs0, eRowsL rs1], .sq dr [.ref a0, u1], .one (.ref sz) (.list [eSize (p0, q0), eSize (p1, q1)]), .one (.ref scr) (.list (script.map PyData.int))]) (inC m0 (inC m1 (inC m6 (inC m8 (inC m9 (inC m10 (in1 m12)))))))
  refine ⟨rfl, ?_⟩
  obtain ⟨a1, xs1, e1, hs1, hl1, w⟩ := w.lst m2
  subst e1
  refine ⟨_, rfl, _, _, _, _, rfl, rfl, w.sq m6, rfl, _, _, rfl, .inl hs1, fun n1 hn1 => ?_⟩
  have w := w.newL hn1 m0
  intro r1 d1 hr1 hd1 hne1
  have w := (w.newO hd1 (.own r1)).newM (p := r1) ((upd_ne (fun z => hne1 z.symm)).trans hr1) (.ins (He.ga K "Rule") d1 [])
  refine Pro.callM (r := pr_Rule___init__ K) (P := fun o => o = .ins (He.ga K "Rule") d1 []) (r1, d1, n1, rs1) w rfl rfl hR1 (in1 m1) fun H10 y1 o1 hst hat w _ _ => ?_
  obtain ⟨_, hat2, rfl⟩ := hst _ (.head _)
  rw [hat] at hat2
  cases hat2
  have w := w.fix
  refine ⟨rfl, by show 2 ≤ sizeLine; decide, fun rl hrl => ?_⟩
  have w := w.newO hrl (.lst [.ref r0, .ref r1])
  have w := w.sub (qs := [.obj rl (.lst [.ref r0, .ref r1]), .all [.ref a0, .ref a1] [eRowsL rs0, eRowsL rs1], .sq dr [.ref a0, .ref a1], .one (.ref sz) (.list [eSize (p0, q0), eSize (p1, q1)]), .one (.ref scr) (.list (script.map PyData.int)), .obj r0 (.ins (He.ga K "Rule") d0 [("rows", .ref y0)]), .one (.ref y0) (.tuple (eRows rs0)), .obj r1 (.ins (He.ga K "Rule") d1 [("rows", .ref y1)]), .one (.ref y1) (.tuple (eRows rs1))]) (inC m0 (inC m10 (inC m11 (inC m12 (inC m13 (inC m7 (inC m8 (inC m1 (in1 m2)))))))))
  obtain ⟨PS, hPS⟩ : ∃ PS : List Pf, PS = [.obj rl (.lst [.ref r0, .ref r1]), .all [.ref a0, .ref a1] [eRowsL rs0, eRowsL rs1], .sq dr [.ref a0, .ref a1], .one (.ref sz) (.list [eSize (p0, q0), eSize (p1, q1)]), .one (.ref scr) (.list (script.map PyData.int)), .obj r0 (.ins (He.ga K "Rule") d0 [("rows", .ref y0)]), .one (.ref y0) (.tuple (eRows rs0)), .obj r1 (.ins (He.ga K "Rule") d1 [("rows", .ref y1)]), .one (.ref y1) (.tuple (eRows rs1))] := ⟨_, rfl⟩
  rw [← hPS] at w
  have hrl1 : Pf.obj rl (.lst [.ref r0, .ref r1]) ∈ PS := by rw [hPS]; exact m0
  have hall : Pf.all [.ref a0, .ref a1] [eRowsL rs0, eRowsL rs1] ∈ PS := by rw [hPS]; exact m1
  have hsqd : Pf.sq dr [.ref a0, .ref a1] ∈ PS := by rw [hPS]; exact m2
  have hsz1 : Pf.one (.ref sz) (.list [eSize (p0, q0), eSize (p1, q1)]) ∈ PS := by rw [hPS]; exact m3
  have hscr : Pf.one (.ref scr) (.list (script.map PyData.int)) ∈ PS := by rw [hPS]; exact m4
  have hg0 : ∀ p ∈ Rg.need K ⟨r0, d0, y0, rs0⟩, p ∈ PS := by rw [hPS]; exact in2 m5 m6
  have hg1 : ∀ p ∈ Rg.need K ⟨r1, d1, y1, rs1⟩, p ∈ PS := by rw [hPS]; exact in2 m7 m8
  clear hPS
  have pick : ∀ i : Nat, i < 2 → ∃ (g : Rg) (li : Addr), [V.ref r0, V.ref r1][i]? = some (.ref g.r) ∧ (∀ p ∈ g.need K, p ∈ PS) ∧ RuleOk g.rs ∧ [V.ref a0, V.ref a1][i]? = some (.ref li) ∧ [eRowsL rs0, eRowsL rs1][i]? = some (eRowsL g.rs) ∧ g.rs = (if i = 0 then rs0 else rs1) := fun i hi => by
    match i, hi with
    | 0, _ => exact ⟨⟨r0, d0, y0, rs0⟩, a0, rfl, hg0, hR0, rfl, rfl, rfl⟩
    | 1, _ => exact ⟨⟨r1, d1, y1, rs1⟩, a1, rfl, hg1, hR1, rfl, rfl, rfl⟩
  refine ⟨Nat.zero_le _, fun du hdu => ?_⟩
  have w := w.newM hdu (.lst [])
  refine ⟨2, rfl, by decide, by decide, ?_⟩
  refine for_range (lo := 0) (n := 2) (fun i σ H' => ∃ (vs : List V) (ds : List Due) (x7 x8 x9 x10 x11 x12 x13 x14 x15 x16 x17 x18 x19 x20 x21 x22 : Option V), σ = [some (.ref sa), some (.ref s), some (.int most), some (.ref dr), some (.ref sz), some (.ref rl), some (.ref du), x7, x8, x9, x10, x11, x12, x13, x14, x15, x16, x17, x18, x19, x20, x21, x22] ∧ Wd K G H1 H' [(s, IsSt scr)] [(du, .lst vs)] (.all vs (ds.map eDue) :: PS) ∧ (∀ d ∈ ds, DueOk rs0 rs1 d) ∧ ds.length ≤ 2 * i)
    ⟨[], [], _, _, _, _, _, _, _, _, _, _, _, _, _, _, _, _, rfl, w.nil, fun d hd => (nomatch hd), Nat.le_refl _⟩ ?_ ?_
  · rintro i σ H' hi ⟨vs, ds, x7, x8, x9, x10, x11, x12, x13, x14, x15, x16, x17, x18, x19, x20, x21, x22, rfl, w, hds, hdl⟩
    obtain ⟨g, li, hgr, hgn, hgR, hli, hld, hgi⟩ := pick i hi
    have hsq := w.sq (.tail _ hsqd)
    rw [Int.zero_add]
    refine ⟨_, rfl, _, rfl, _, _, _, _, rfl, rfl, hsq, atI_nat hli, ?_⟩
    obtain ⟨ed, hed, w⟩ := w.item (.tail _ hall) hli
    rw [hld] at hed
    cases hed
    obtain ⟨li', xs, e1, hsx, hxl, w⟩ := w.lst m0
    cases e1
    have hxl : xs.length = g.rs.length := w.lenM m0
    obtain ⟨q, hq⟩ : ∃ q, g.rs.getLast? = some q := ⟨g.rs.getLast hgR.ne, List.getLast?_eq_some_getLast hgR.ne⟩
    have hqb := hgR.row q (List.mem_of_getLast? hq)
    have hq2 := hq
    rw [List.getLast?_eq_getElem?] at hq2
    have hn : g.rs.length - 1 < g.rs.length := (List.getElem?_eq_some_iff.mp hq2).1
    obtain ⟨v, hv⟩ : ∃ v, xs[g.rs.length - 1]? = some v := ⟨xs[g.rs.length - 1]'(by omega), List.getElem?_eq_getElem (by omega)⟩
    obtain ⟨q', hq', w⟩ := w.itemM (f := eRow) m0 hv
    rw [hq2] at hq'
    cases hq'
    obtain ⟨t, rfl, ht⟩ := w.ii m0
    refine ⟨_, rfl, _, rfl, _, _, _, _, rfl, rfl, hsx, atI_end hv hxl, _, _, _, _, rfl, rfl, ht, rfl, ?_⟩
    refine ⟨_, rfl, li, rfl, ⟨_, hsx⟩, fun D hD => ?_⟩
    have w := w.sub (qs := .all xs (eRows g.rs) :: .sq li xs :: .one (.ref li) (eRowsL g.rs) :: .all vs (ds.map eDue) :: PS) (inC m1 (inC m2 (inC m3 (inC m4 fun p h => .tail _ (.tail _ (.tail _ (.tail _ (.tail _ h))))))))

    refine lc_list (K := K) (a := li) (xs := xs) (fun j H' => Wd K G H1 H' [(s, IsSt scr)] [(D, .lst ((prods (g.rs.take j)).map V.int)), (du, .lst vs)] (.all xs (eRows g.rs) :: .sq li xs :: .one (.ref li) (eRowsL g.rs) :: .all vs (ds.map eDue) :: PS)) (w.newM hD (.lst [])) (fun j H' _ w => w.sq m1) (fun j y H' hj w => ?_) (fun H' w => ?_)
    · obtain ⟨q1, hq1, w⟩ := w.itemM (f := eRow) m0 hj
      obtain ⟨t, rfl, ht⟩ := w.ii m0
      have hr := hgR.row q1 (List.mem_of_getElem? hq1)
      have hil : (g.rs.take j).length ≤ 4 := Nat.le_trans (List.length_take_le' ..) hgR.len
      refine ⟨t, _, rfl, ht, rfl, _, _, rfl, _, _, rfl, rfl, rfl, yesL ⟨_, rfl, _, rfl, _, _, rfl, rfl, .inl ⟨by omega, by omega⟩, ?_⟩⟩
      refine ⟨_, w.at_ m0, Nat.lt_of_le_of_lt (show _ ≤ 4 by rw [List.length_map]; unfold prods; rw [List.length_map]; exact hil) (by decide), ?_⟩
      have e : (prods (g.rs.take (j + 1))).map V.int = (prods (g.rs.take j)).map V.int ++ [.int (q1.1 * q1.2)] := by
        unfold prods
        rw [List.take_succ, hq1]
        simp
      rw [e]
      exact w.put.sub fun p h => .tail _ h
    rw [hxl, List.take_length] at w
    refine ⟨D, prods g.rs, rfl, SqL.of (w.at_ m0), by unfold prods; rw [List.length_map]; exact List.length_pos_iff.mpr hgR.ne, fun m hm hle => ?_⟩
    have hmax : IsMax (prods g.rs) m := ⟨hm, hle⟩
    have hmb := settled_bd hgR hmax
    have w := (w.drop (ns := [(du, .lst vs)]) (by simp)).sub (qs := .one (.ref li) (eRowsL g.rs) :: .all vs (ds.map eDue) :: PS) fun p h => .tail _ (.tail _ h)
    refine ⟨_, rfl, _, rfl, _, _, rfl, rfl, m + q.1, rfl, by omega, by omega, fun D2 hD2 => ?_⟩
    refine lc_range (lo := 0) (n := (m + q.1).toNat) (fun j H' => ∃ tvs : List V, Wd K G H1 H' [(s, IsSt scr)] [(D2, .lst tvs), (du, .lst vs)] (.all tvs (((List.range j).map fun t => gapsF g.rs ((t : Nat) : Int)).map fun l => .list (l.map PyData.int)) :: .one (.ref li) (eRowsL g.rs) :: .all vs (ds.map eDue) :: PS)) ⟨[], (w.newM hD2 (.lst [])).nil⟩ (fun j H' hj hI => ?_) (fun H' hI => ?_)
    · obtain ⟨tvs, w⟩ := hI
      rw [Int.zero_add]
      have htl := w.lenM m0
      rw [List.length_map, List.length_range] at htl
      refine ⟨rfl, yesL ⟨_, rfl, _, rfl, ?_⟩⟩
      refine Pro.call0 (r := pr__law_gaps K) (.ref li, g.rs, (j : Int)) w rfl hgR (in1 m1) fun H3 y w _ _ => ?_
      refine ⟨_, w.at_ m0, Nat.lt_of_le_of_lt (show tvs.length ≤ 1800 by omega) (by decide), tvs ++ [.ref y], ?_⟩
      have w := (w.snoc m1 m0).put (o' := .lst (tvs ++ [.ref y]))
      rw [List.range_succ, List.map_append, List.map_append]
      exact w.sub (inC m0 fun p h => .tail _ (.tail _ (.tail _ h)))
    obtain ⟨tvs, w⟩ := hI
    have w := (w.fixL m0).sub (qs := .one (.ref D2) (.list (((List.range (m + q.1).toNat).map fun t => gapsF g.rs ((t : Nat) : Int)).map fun l => .list (l.map PyData.int))) :: .one (.ref li) (eRowsL g.rs) :: .all vs (ds.map eDue) :: PS) (inC m0 fun p h => .tail _ (.tail _ h))
    refine ⟨_, rfl, _, rfl, _, rfl, _, _, rfl, rfl, ?_⟩
    refine Pro.callX (r := pr__law_next K) (⟨s, scr, script⟩, m + q.1) w rfl (lim9 (by omega) (by omega)) (in1 (.tail _ (.tail _ (.tail _ hscr)))) fun H3 near w hnear => ?_
    have hnear : 0 ≤ near ∧ near < m + q.1 := hnear
    refine ⟨_, rfl, _, rfl, _, rfl, _, _, rfl, rfl, .inl ⟨by decide, by decide⟩, ?_⟩
    refine Pro.callX (r := pr__law_next K) (⟨s, scr, script⟩, 3 * q.1) w rfl (lim9 (by omega) (by omega)) (in1 (.tail _ (.tail _ (.tail _ hscr)))) fun H4 late w hlate => ?_
    have hlate : 0 ≤ late ∧ late < 3 * q.1 := hlate
    refine ⟨_, _, rfl, rfl, _, rfl, _, rfl, _, rfl, _, _, rfl, rfl, ⟨by decide, by decide, by decide⟩, ?_⟩
    refine Pro.callX (r := pr__law_next K) (⟨s, scr, script⟩, 10 ^ Int.toNat 6) w rfl (lim9 (x := 10 ^ Int.toNat 6) (by decide) (by decide)) (in1 (.tail _ (.tail _ (.tail _ hscr)))) fun H5 far w hfar => ?_
    have hfar : 0 ≤ far ∧ far < 10 ^ Int.toNat 6 := hfar
    refine ⟨_, _, rfl, rfl, _, _, rfl, rfl, .inl ⟨by omega, by omega⟩, _, _, rfl, rfl, ?_⟩
    have hfar2 : 0 ≤ q.1 * (1 + far) := Int.mul_nonneg (by omega) (by omega)
    obtain ⟨sz', zvs, e1, hsz2, hzl, w⟩ := w.lst (.tail _ (.tail _ (.tail _ hsz1)))
    cases e1
    have hzl : zvs.length = 2 := hzl
    obtain ⟨z0, z1, rfl⟩ : ∃ z0 z1, zvs = [z0, z1] := by
      match zvs, hzl with
      | [a, b], _ => exact ⟨a, b, rfl⟩
    have hcut : ∃ (zs : List V) (L : List (Int × Int)), cutV [z0, z1] (some (i : Int)) none = zs ∧ (∀ z ∈ L, B1 z.1 ∧ B1 z.2) ∧ L.length ≤ 2 ∧ Wd K G H1 H5 [(s, IsSt scr)] [(du, .lst vs)] (.all zs (L.map eSize) :: .one (.ref D2) (.list (((List.range (m + q.1).toNat).map fun t => gapsF g.rs ((t : Nat) : Int)).map fun l => .list (l.map PyData.int))) :: .one (.ref li) (eRowsL g.rs) :: .all vs (ds.map eDue) :: PS) := by
      match i, hi with
      | 0, _ =>
        refine ⟨[z0, z1], [(p0, q0), (p1, q1)], rfl, fun z hz => ?_, by simp, w.sub (inC m0 fun p h => .tail _ (.tail _ h))⟩
        rcases List.mem_cons.mp hz with e | e
        · rw [e]; exact ⟨hp0, hq0⟩
        · rw [List.mem_singleton.mp e]; exact ⟨hp1, hq1⟩
      | 1, _ =>
        obtain ⟨d, e, w⟩ := w.item (i := 1) m0 rfl
        cases e
        refine ⟨[z1], [(p1, q1)], rfl, fun z hz => ?_, by simp, w.sub (inC m0 fun p h => .tail _ (.tail _ (.tail _ h)))⟩
        rw [List.mem_singleton.mp hz]
        exact ⟨hp1, hq1⟩
    obtain ⟨zs, L, hcut, hL, hLl, w⟩ := hcut
    refine ⟨_, rfl, _, rfl, _, rfl, _, _, rfl, hsz2, fun zl hzl2 => ?_⟩
    rw [hcut]
    have w := w.newO hzl2 (.lst zs)
    refine ⟨_, rfl, ⟨_, SqL.of (w.atP m0)⟩, ?_⟩
    refine for_list (K := K) (a := zl) (xs := zs) (fun j σ H' => ∃ (vs : List V) (ds : List Due) (x15 x16 x17 x18 x19 x20 x21 x22 : Option V), σ = [some (.ref sa), some (.ref s), some (.int most), some (.ref dr), some (.ref sz), some (.ref rl), some (.ref du), some (.int (i : Int)), some (.ref li), some (.int q.1), some (.int m), some (.ref D2), some (.int near), some (.int (m + late)), some (.int (m + late + q.1 * (1 + far))), x15, x16, x17, x18, x19, x20, x21, x22] ∧ Wd K G H1 H' [(s, IsSt scr)] [(du, .lst vs)] (.all vs (ds.map eDue) :: .obj zl (.lst zs) :: .all zs (L.map eSize) :: .one (.ref D2) (.list (((List.range (m + q.1).toNat).map fun t => gapsF g.rs ((t : Nat) : Int)).map fun l => .list (l.map PyData.int))) :: .one (.ref li) (eRowsL g.rs) :: PS) ∧ (∀ d ∈ ds, DueOk rs0 rs1 d) ∧ ds.length ≤ 2 * i + j)
      ⟨vs, ds, _, _, _, _, _, _, _, _, rfl, w.sub (inC m4 (inC m0 (inC m1 (inC m2 (inC m3 fun p h => .tail _ (.tail _ (.tail _ (.tail _ (.tail _ h))))))))), hds, hdl⟩ (fun j σ H' _ ⟨_, _, _, _, _, _, _, _, _, _, _, w, _⟩ => SqL.of (w.atP m1)) ?_ ?_
    · rintro j y σ H' hj ⟨vs, ds, x15, x16, x17, x18, x19, x20, x21, x22, rfl, w, hds, hdl⟩
      obtain ⟨z, hz, w⟩ := w.itemM (f := eSize) m2 hj
      obtain ⟨t, rfl, ht⟩ := w.ii m0
      have hzm := hL z (List.mem_of_getElem? hz)
      have hj2 : j < 2 := Nat.lt_of_lt_of_le (List.getElem?_eq_some_iff.mp hz).1 hLl
      obtain ⟨⟨hb1, hb2⟩, hb3, hb4⟩ := hzm
      refine ⟨t, _, rfl, ht, rfl, _, _, rfl, _, _, rfl, rfl, ?_⟩
      refine ⟨_, rfl, _, rfl, _, rfl, ?_⟩
      refine Pro.call0 (r := pr__law_greatest K) (.ref D2, (List.range (m + q.1).toNat).map fun t => gapsF g.rs ((t : Nat) : Int), z.1, z.2) w rfl ⟨hb1, hb2, hb3, hb4, fun l hl => ?_, by rw [List.length_map, List.length_range]; omega, by rw [List.length_map, List.length_range]; omega⟩ (in1 m4) fun H6 y w hy _ => ?_
      · obtain ⟨u, _, rfl⟩ := List.mem_map.mp hl
        exact gapsF_len
      obtain ⟨de, b, bi⟩ := y
      have hb : Best (fun j => roomF g.rs (j : Int) z.1 z.2) (m + q.1).toNat b bi := by
        have h1 : Best (fun j => roomG (((List.range (m + q.1).toNat).map fun t => gapsF g.rs ((t : Nat) : Int)).getD j []) z.1 z.2) ((List.range (m + q.1).toNat).map fun t => gapsF g.rs ((t : Nat) : Int)).length b bi := hy
        rw [List.length_map, List.length_range] at h1
        refine h1.congr fun j hj => ?_
        rw [List.getD_eq_getElem?_getD, List.getElem?_map, List.getElem?_range hj]
        rfl
      have hGA : GreatAt g.rs z.1 z.2 b bi := ⟨q, m, _, hq, hmax, by omega, hb⟩
      refine ⟨_, rfl, .inl ⟨rfl, _, SqL.of (w.at_ m0)⟩, _, rfl, _, rfl, _, rfl, _, rfl, by show 4 ≤ sizeLine; decide, fun dt hdt => ?_⟩
      have w := ((w.ofInts [(i : Int), z.1, z.2]).snoc m0 (.tail _ m0)).newT hdt m0
      have hvl : vs.length = ds.length := w.lenM m5
      refine ⟨du, vs, _, rfl, rfl, w.at_ m0, Nat.lt_of_le_of_lt (show vs.length ≤ 100 by omega) (by decide), ?_⟩
      have w := (w.snoc m5 m0).put (o' := .lst (vs ++ [V.ref dt]))
      have ed : ds.map eDue ++ [eDue (Due.mk i z.1 z.2 b bi)] = (ds ++ [Due.mk i z.1 z.2 b bi]).map eDue := by rw [List.map_append]; rfl
      have w := w.sub (qs := .all (vs ++ [V.ref dt]) (ds.map eDue ++ [eDue (Due.mk i z.1 z.2 b bi)]) :: .one (.ref de) (.tuple [.int b, .int (bi : Int)]) :: .obj zl (.lst zs) :: .all zs (L.map eSize) :: .one (.ref D2) (.list (((List.range (m + q.1).toNat).map fun t => gapsF g.rs ((t : Nat) : Int)).map fun l => .list (l.map PyData.int))) :: .one (.ref li) (eRowsL g.rs) :: PS) (inC m0 (inC m4 (inC m7 (inC m8 (inC m9 (inC m10 fun p h => .tail _ (.tail _ (.tail _ (.tail _ (.tail _ (.tail _ (.tail _ (.tail _ (.tail _ (.tail _ (.tail _ h))))))))))))))))
      rw [ed] at w
      have hds2 : ∀ d ∈ ds ++ [Due.mk i z.1 z.2 b bi], DueOk rs0 rs1 d := fun d hd => by
        rcases List.mem_append.mp hd with e | e
        · exact hds d e
        · rw [List.mem_singleton.mp e]
          exact ⟨hi, ⟨hb1, hb2⟩, ⟨hb3, hb4⟩, by rw [← hgi]; exact hGA⟩
      have hgn2 : ∀ p ∈ g.need K, p ∈ (.all (vs ++ [V.ref dt]) ((ds ++ [Due.mk i z.1 z.2 b bi]).map eDue) :: .one (.ref de) (.tuple [.int b, .int (bi : Int)]) :: .obj zl (.lst zs) :: .all zs (L.map eSize) :: .one (.ref D2) (.list (((List.range (m + q.1).toNat).map fun t => gapsF g.rs ((t : Nat) : Int)).map fun l => .list (l.map PyData.int))) :: .one (.ref li) (eRowsL g.rs) :: PS) := fun p h => .tail _ (.tail _ (.tail _ (.tail _ (.tail _ (.tail _ (hgn p h))))))
      have hrl2 : Pf.obj rl (.lst [.ref r0, .ref r1]) ∈ (.all (vs ++ [V.ref dt]) ((ds ++ [Due.mk i z.1 z.2 b bi]).map eDue) :: .one (.ref de) (.tuple [.int b, .int (bi : Int)]) :: .obj zl (.lst zs) :: .all zs (L.map eSize) :: .one (.ref D2) (.list (((List.range (m + q.1).toNat).map fun t => gapsF g.rs ((t : Nat) : Int)).map fun l => .list (l.map PyData.int))) :: .one (.ref li) (eRowsL g.rs) :: PS) := .tail _ (.tail _ (.tail _ (.tail _ (.tail _ (.tail _ hrl1)))))
      refine ⟨_, rfl, _, rfl, _, _, _, _, rfl, rfl, SqL.of (w.atP hrl2), atI_nat hgr, _, rfl, _, rfl, ?_⟩
      refine Pro.call0 (r := pr_greatest_room K) (g, z.1, z.2) w rfl ⟨hgR, hb1, hb2, hb3, hb4⟩ hgn2 fun H7 y w hy _ => ?_
      obtain ⟨t2, b2, i2⟩ := y
      have hge := GreatAt.eq (show GreatAt g.rs z.1 z.2 b2 i2 from hy) hGA
      obtain ⟨rfl, rfl⟩ := hge
      refine ⟨_, rfl, ?_⟩
      refine Pro.call0 (r := pr__law_is 2 K) (.ref t2, .ref de, .tuple [.int b2, .int (i2 : Int)]) w rfl rfl (in2 m0 m2) fun H8 _ w _ _ => ?_
      refine ⟨_, rfl, iteN (by decide) ?_⟩
      have w := w.sub (qs := .all (vs ++ [V.ref dt]) ((ds ++ [Due.mk i z.1 z.2 b2 i2]).map eDue) :: .one (.ref de) (.tuple [.int b2, .int (i2 : Int)]) :: .obj zl (.lst zs) :: .all zs (L.map eSize) :: .one (.ref D2) (.list (((List.range (m + q.1).toNat).map fun t => gapsF g.rs ((t : Nat) : Int)).map fun l => .list (l.map PyData.int))) :: .one (.ref li) (eRowsL g.rs) :: PS) inRR
      obtain ⟨de', e1, hde⟩ := w.ii m1
      cases e1
      refine ⟨_, rfl, _, rfl, _, _, _, _, rfl, rfl, hde, rfl, _, rfl, _, _, _, _, rfl, rfl, hde, rfl, _, _, rfl, rfl, _, _, rfl, _, rfl, _, rfl, _, _, rfl, rfl, ⟨by decide, by decide, by decide⟩, by show 7 ≤ sizeLine; decide, fun tl htl => ?_⟩
      have htn : ∀ t ∈ ticks near (i2 : Int) (m + late) (m + late + q.1 * (1 + far)), (0 : Int) ≤ t := by
        unfold ticks
        refine List.forall_mem_cons.mpr ⟨Int.le_refl _, List.forall_mem_cons.mpr ⟨hnear.1, List.forall_mem_cons.mpr ⟨Int.natCast_nonneg _, List.forall_mem_cons.mpr ⟨by split <;> omega, List.forall_mem_cons.mpr ⟨by omega, List.forall_mem_cons.mpr ⟨by omega, List.forall_mem_cons.mpr ⟨by decide, fun _ h => (nomatch h)⟩⟩⟩⟩⟩⟩⟩
      have w := w.newO htl (.lst ((ticks near (i2 : Int) (m + late) (m + late + q.1 * (1 + far))).map V.int))
      refine ⟨tl, rfl, ⟨_, SqL.of upd_same⟩, ?_⟩
      refine for_list (K := K) (a := tl) (xs := (ticks near (i2 : Int) (m + late) (m + late + q.1 * (1 + far))).map V.int) (fun a σ H' => ∃ (x18 x19 x20 x21 x22 : Option V), σ = [some (.ref sa), some (.ref s), some (.int most), some (.ref dr), some (.ref sz), some (.ref rl), some (.ref du), some (.int (i : Int)), some (.ref li), some (.int q.1), some (.int m), some (.ref D2), some (.int near), some (.int (m + late)), some (.int (m + late + q.1 * (1 + far))), some (.int z.1), some (.int z.2), some (.ref de), x18, x19, x20, x21, x22] ∧ Wd K G H1 H' [(s, IsSt scr)] [(du, .lst (vs ++ [V.ref dt]))] (.obj tl (.lst ((ticks near (i2 : Int) (m + late) (m + late + q.1 * (1 + far))).map V.int)) :: .all (vs ++ [V.ref dt]) ((ds ++ [Due.mk i z.1 z.2 b2 i2]).map eDue) :: .one (.ref de) (.tuple [.int b2, .int (i2 : Int)]) :: .obj zl (.lst zs) :: .all zs (L.map eSize) :: .one (.ref D2) (.list (((List.range (m + q.1).toNat).map fun t => gapsF g.rs ((t : Nat) : Int)).map fun l => .list (l.map PyData.int))) :: .one (.ref li) (eRowsL g.rs) :: PS))
        ⟨_, _, _, _, _, rfl, ?_⟩ (fun a σ H' _ ⟨_, _, _, _, _, _, w⟩ => SqL.of (w.atP m0)) ?_ ?_
      · exact w
      · rintro a x σ H' ha ⟨x18, x19, x20, x21, x22, rfl, w⟩
        rw [List.getElem?_map] at ha
        obtain ⟨t, ht1, rfl⟩ := Option.map_eq_some_iff.mp ha
        have ht0 := htn t (List.mem_of_getElem? ht1)
        refine ⟨_, rfl, _, rfl, ?_⟩
        refine Pro.call0 (r := pr__law_gaps K) (.ref li, g.rs, t) w rfl hgR (in1 m6) fun H9 y w _ _ => ?_
        refine ⟨_, rfl, _, rfl, ?_⟩
        refine Pro.call0 (r := pr__law_room K) (.ref y, gapsF g.rs t, z.1, z.2) w rfl ⟨hb1, hb2, hb3, hb4, gapsF_len⟩ (in1 m0) fun H10 _ w _ _ => ?_
        refine ⟨_, rfl, _, rfl, _, _, _, _, rfl, rfl, SqL.of (w.atP (.tail _ (.tail _ hrl2))), atI_nat hgr, _, rfl, _, rfl, _, rfl, ?_⟩
        refine Pro.call0 (r := pr_room_at K) (g, t, z.1, z.2) w rfl ⟨hgR, hb1, hb2, hb3, hb4⟩ (fun p h => .tail _ (.tail _ (hgn2 p h))) fun H11 _ w _ _ => ?_
        obtain ⟨R, hRt⟩ : ∃ R, R = roomF g.rs t z.1 z.2 := ⟨_, rfl⟩
        refine ⟨_, rfl, _, rfl, ?_⟩
        refine Pro.call0 (r := pr__law_is 2 K) (.int (roomF g.rs t z.1 z.2), .int (roomF g.rs t z.1 z.2), .int (roomF g.rs t z.1 z.2)) (w.int (roomF g.rs t z.1 z.2)) rfl rfl (in2 m0 m0) fun H12 _ w _ _ => ?_
        have hle : roomF g.rs t z.1 z.2 ≤ b2 := room_le hgR hq hmax (show (((m + q.1).toNat : Nat) : Int) = m + q.1 by omega) hb ht0
        obtain ⟨_, e2, hde2⟩ := w.ii m4
        cases e2
        refine ⟨_, rfl, iteN (by decide) ⟨_, rfl, _, rfl, _, _, _, _, rfl, rfl, hde2, rfl, _, _, rfl, rfl, _, rfl, iteN (fun c => ?_) ?_⟩⟩
        · have c : b2 < roomF g.rs t z.1 z.2 := of_decide_eq_true c
          omega
        have w := w.sub (qs := .obj tl (.lst ((ticks near (i2 : Int) (m + late) (m + late + q.1 * (1 + far))).map V.int)) :: .all (vs ++ [V.ref dt]) ((ds ++ [Due.mk i z.1 z.2 b2 i2]).map eDue) :: .one (.ref de) (.tuple [.int b2, .int (i2 : Int)]) :: .obj zl (.lst zs) :: .all zs (L.map eSize) :: .one (.ref D2) (.list (((List.range (m + q.1).toNat).map fun t => gapsF g.rs ((t : Nat) : Int)).map fun l => .list (l.map PyData.int))) :: .one (.ref li) (eRowsL g.rs) :: PS) fun p h => inR p (.tail _ (inRR p (inR p h)))
        by_cases c : t < (i2 : Int)
        · have hlt : roomF g.rs t z.1 z.2 < b2 := by
            have h1 := hb.first t.toNat (by omega)
            rw [Int.toNat_of_nonneg ht0] at h1
            exact h1
          refine ⟨_, rfl, _, rfl, _, _, _, _, rfl, rfl, hde2, rfl, _, _, rfl, rfl, _, rfl, iteP (decide_eq_true c) ⟨_, rfl, _, rfl, _, _, _, _, rfl, rfl, hde2, rfl, _, _, rfl, rfl, _, rfl, iteN (fun z9 => ?_) ?_⟩⟩
          · have z9 : b2 ≤ roomF g.rs t z.1 z.2 := of_decide_eq_true z9
            omega
          refine ⟨_, rfl, _, rfl, _, _, _, _, rfl, rfl, hde2, rfl, rfl, _, rfl, iteN (fun z9 => ?_) (iteN ff ?_)⟩
          · have z9 : V.int t = V.int (i2 : Int) := of_decide_eq_true z9
            injection z9 with z9
            omega
          exact ⟨_, _, _, _, _, rfl, w⟩
        · refine ⟨_, rfl, _, rfl, _, _, _, _, rfl, rfl, hde2, rfl, _, _, rfl, rfl, _, rfl, iteN (fun z => c (of_decide_eq_true z)) (iteN ff ?_)⟩
          refine ⟨_, rfl, _, rfl, _, _, _, _, rfl, rfl, hde2, rfl, rfl, _, rfl, ite2 (fun z9 => ?_) (fun _ => iteN ff ?_)⟩
          · have z9 : V.int t = V.int (i2 : Int) := of_decide_eq_true z9
            injection z9 with z9
            have h1 : roomF g.rs (i2 : Int) z.1 z.2 = b2 := hb.at_
            rw [← z9] at h1
            refine ⟨_, rfl, _, rfl, _, _, _, _, rfl, rfl, hde2, rfl, rfl, _, rfl, iteN (fun z2 => ?_) ?_⟩
            · have z2 : (!decide (V.int (roomF g.rs t z.1 z.2) = V.int b2)) = true := z2
              rw [h1, decide_eq_true rfl] at z2
              exact absurd z2 (by decide)
            · exact ⟨_, _, _, _, _, rfl, w⟩
          · exact ⟨_, _, _, _, _, rfl, w⟩
      · rintro σ H' ⟨x18, x19, x20, x21, x22, rfl, w⟩
        exact ⟨vs ++ [V.ref dt], ds ++ [Due.mk i z.1 z.2 b2 i2], _, _, _, _, _, _, _, _, rfl, w.sub (inC m1 (inC m3 (inC m4 (inC m5 (inC m6 fun p h => .tail _ (.tail _ (.tail _ (.tail _ (.tail _ (.tail _ (.tail _ h))))))))))), hds2, by rw [List.length_append]; show ds.length + 1 ≤ 2 * i + (j + 1); omega⟩
    · rintro σ H' ⟨vs, ds, x15, x16, x17, x18, x19, x20, x21, x22, rfl, w, hds, hdl⟩
      have hzl3 : zs.length = L.length := w.lenM m2
      exact ⟨vs, ds, _, _, _, _, _, _, _, _, _, _, _, _, _, _, _, _, rfl, w.sub (inC m0 fun p h => .tail _ (.tail _ (.tail _ (.tail _ (.tail _ h))))), hds, by omega⟩
  · rintro σ H' ⟨vs, ds, x7, x8, x9, x10, x11, x12, x13, x14, x15, x16, x17, x18, x19, x20, x21, x22, rfl, w, hds, hdl⟩
    have hvl : vs.length = ds.length := w.lenM m0
    refine ⟨_, rfl, _, rfl, _, rfl, _, _, rfl, SqL.of (w.at_ m0), fun zl hzl => ?_⟩
    have w := (w.newO hzl (.lst (cutV vs (some (-2)) none))).drop (ns := []) (by simp)
    refine ⟨zl, rfl, ⟨_, SqL.of (w.atP m0)⟩, ?_⟩
    refine for_list (K := K) (a := zl) (xs := cutV vs (some (-2)) none) (fun j σ H' => ∃ (x7 x8 x9 x10 x11 x12 x13 x14 x15 x16 x17 x18 x19 x20 x21 x22 : Option V), σ = [some (.ref sa), some (.ref s), some (.int most), some (.ref dr), some (.ref sz), some (.ref rl), some (.ref du), x7, x8, x9, x10, x11, x12, x13, x14, x15, x16, x17, x18, x19, x20, x21, x22] ∧ Wd K G H1 H' [(s, IsSt scr)] [] (.obj zl (.lst (cutV vs (some (-2)) none)) :: .all vs (ds.map eDue) :: PS))
      ⟨_, _, _, _, _, _, _, _, _, _, _, _, _, _, _, _, rfl, ?_⟩ (fun j σ H' _ ⟨_, _, _, _, _, _, _, _, _, _, _, _, _, _, _, _, _, w⟩ => SqL.of (w.atP m0)) ?_ ?_
    · exact w
    · rintro j x σ H' hj ⟨x7, x8, x9, x10, x11, x12, x13, x14, x15, x16, x17, x18, x19, x20, x21, x22, rfl, w⟩
      obtain ⟨j2, hj2, hj3⟩ := List.mem_iff_getElem.mp (cut_mem (List.mem_of_getElem? hj))
      have hj4 : vs[j2]? = some x := by rw [List.getElem?_eq_getElem hj2, hj3]
      obtain ⟨d, hd, w⟩ := w.itemM (f := eDue) m1 hj4
      have hdo := hds d (List.mem_of_getElem? hd)
      obtain ⟨t, ts, e1, hts, htl, w⟩ := w.tup m0
      subst e1
      have htl : ts.length = 4 := htl
      obtain ⟨t0, t1, t2, t3, rfl⟩ : ∃ t0 t1 t2 t3, ts = [t0, t1, t2, t3] := by
        match ts, htl with
        | [a, b, c, e], _ => exact ⟨a, b, c, e, rfl⟩
      obtain ⟨_, e, w⟩ := w.item (i := 0) m0 rfl
      cases e
      obtain ⟨_, e, w⟩ := w.item (i := 1) m1 rfl
      cases e
      obtain ⟨_, e, w⟩ := w.item (i := 2) m2 rfl
      cases e
      obtain ⟨_, e, w⟩ := w.item (i := 3) m3 rfl
      cases e
      have a3 := w.dp m3
      have a2 := w.dp m2
      have a1 := w.dp m1
      cases a3
      cases a2
      cases a1
      refine ⟨t, _, rfl, hts, rfl, _, _, rfl, _, _, rfl, _, _, rfl, _, _, rfl, rfl, ?_⟩
      have w := w.sub (qs := .one t3 (.tuple [.int d.b, .int (d.i : Int)]) :: .obj zl (.lst (cutV vs (some (-2)) none)) :: .all vs (ds.map eDue) :: PS) (inC m0 (inC m7 (inC m8 (fun p h => .tail _ (.tail _ (.tail _ (.tail _ (.tail _ (.tail _ (.tail _ (.tail _ (.tail _ (h)))))))))))))
      obtain ⟨g, li, hgr, hgn, hgR, hli, hld, hgi⟩ := pick d.k hdo.k
      have hGA := hdo.g
      rw [← hgi] at hGA
      refine ⟨_, rfl, _, rfl, _, _, _, _, rfl, rfl, SqL.of (w.atP (.tail _ (.tail _ (.tail _ hrl1)))), atI_nat hgr, _, rfl, _, rfl, ?_⟩
      refine Pro.call0 (r := pr_greatest_room K) (g, d.p, d.r) w rfl ⟨hgR, hdo.p.1, hdo.p.2, hdo.r.1, hdo.r.2⟩ (fun p h => .tail _ (.tail _ (.tail _ (hgn p h)))) fun H7 y w hy _ => ?_
      obtain ⟨t2, b2, i2⟩ := y
      obtain ⟨hge1, hge2⟩ := GreatAt.eq (show GreatAt g.rs d.p d.r b2 i2 from hy) hGA
      subst hge1 hge2
      refine ⟨_, rfl, ?_⟩
      refine Pro.call0 (r := pr__law_is 2 K) (.ref t2, t3, .tuple [.int d.b, .int (d.i : Int)]) w rfl rfl (in2 m0 m1) fun H8 _ w _ _ => ?_
      refine ⟨_, rfl, iteN (by decide) ?_⟩
      refine ⟨_, _, _, _, _, _, _, _, _, _, _, _, _, _, _, _, rfl, ?_⟩
      exact w.sub fun p h => inR p (inR p (.tail _ h))
    · rintro σ H' ⟨x7, x8, x9, x10, x11, x12, x13, x14, x15, x16, x17, x18, x19, x20, x21, x22, rfl, w⟩
      have w := w.sub (qs := PS) fun p h => .tail _ (.tail _ h)
      have hrl := w.atP hrl1
      have ho0 := w.atP (hg0 _ m0)
      have hsq := w.sq hsqd
      obtain ⟨_, e, w⟩ := w.item (i := 0) hall rfl
      cases e
      obtain ⟨_, e, w⟩ := w.item (i := 1) (.tail _ hall) rfl
      cases e
      obtain ⟨_, xs0, e, hx0, _, w⟩ := w.lst m1
      cases e
      refine ⟨_, rfl, _, _, _, _, rfl, rfl, SqL.of hrl, rfl, _, _, _, _, _, rfl, ho0, T.cl_Rule, T.no_Rule_rows, rfl, _, rfl, _, _, _, _, rfl, rfl, hsq, rfl, _, _, rfl, .inl ⟨hx0, fun p hp => ?_⟩⟩
      have w := w.newT hp m0
      refine Pro.call0 (r := pr__law_is 2 K) (.ref y0, .ref p, .tuple (eRows rs0)) w rfl (isD_rows rs0 hR0.len) (in2 (.tail _ (.tail _ (.tail _ (.tail _ (.tail _ (hg0 _ m1)))))) m0) fun H8 _ w _ _ => ?_
      refine ⟨_, rfl, iteP rfl ?_⟩
      have hrl := w.atP (.tail _ (.tail _ (.tail _ (.tail _ (.tail _ hrl1)))))
      have ho1 := w.atP (.tail _ (.tail _ (.tail _ (.tail _ (.tail _ (hg1 _ m0))))))
      have hsq := w.sq (.tail _ (.tail _ (.tail _ (.tail _ (.tail _ hsqd)))))
      obtain ⟨_, xs1, e, hx1, _, w⟩ := w.lst m3
      cases e
      refine ⟨_, rfl, _, _, _, _, rfl, rfl, SqL.of hrl, rfl, _, _, _, _, _, rfl, ho1, T.cl_Rule, T.no_Rule_rows, rfl, _, rfl, _, _, _, _, rfl, rfl, hsq, rfl, _, _, rfl, .inl ⟨hx1, fun p2 hp2 => ?_⟩⟩
      have w := w.newT hp2 m0
      refine Pro.call0 (r := pr__law_is 2 K) (.ref y1, .ref p2, .tuple (eRows rs1)) w rfl (isD_rows rs1 hR1.len) (in2 (.tail _ (.tail _ (.tail _ (.tail _ (.tail _ (.tail _ (.tail _ (.tail _ (hg1 _ m1))))))))) m0) fun H9 _ w _ _ => ?_
      exact fin _ _ _ w
end K66

namespace K66
open PySem PySem.Spec PyProof.Rows L2 KX
abbrev Rr : PySem.W.OpenRow := PySem.W.OpenLaw.row PySem.Challenge.rw_whatcomesfree_k66_greatest_of_all_ticks
abbrev hk : PySem.W.Hook := hoK 6 exs fns
def ob (s : PySem.W.SharedT) : Bool × List He.FnW := obG 6 exs fns (HandSHeadRun.getT s)
theorem ob_eq (s : PySem.W.SharedT) : ob s = hk.obs s.abs := obG_eq (HandSHeadRun.getT_eq s)
def lnames : List PySem.Str := ["_wall", "StoreError", "BadRule", "Rule", "room_at", "greatest_room", "_law_mix", "_law_start", "_law_next", "_law_is", "_law_rule", "_law_stands", "_law_gaps", "_law_size", "_law_room", "_law_greatest"]
theorem run (w : World) : HandSHeadRun.RunEq Rr (PySem.W.view Rr.prog [20]) hk ob 4000 lnames w := by
  intro os
  kernel_rfl
end K66
namespace K66
open PySem PySem.Spec PyProof.Rows L2 KX
theorem law_start {K : PySem.W.Frag} {H : Hp} {E : XK} {a : Addr} {zs : List Int} (hS : SqL K H a (zs.map V.int)) : (pr_law K).sp K [.ref a] H (fun v _ => v = .bl true) E := by
  unfold Pro.sp
  refine ⟨(.ref a, zs), H, rfl, trivial, fun _ _ e => e, fun p hp => ?_, stand0, stand0, fun _ z => (nomatch z), List.nodup_nil, fun _ _ _ _ _ _ _ _ _ _ _ _ _ => rfl⟩
  cases hp with
  | head => exact .cons (.lst hS (dpaOfInts zs)) .nil
  | tail _ z => cases z
theorem law_facts {P : Program} {w : World} {K : PySem.W.Frag} {h : Heap} {mg : Str → Option Value} {f : Addr} (X : K.In h) (G : h.Ns mainGlobals mg) (hfa : mg ("law" : Str) = some (.ref f)) (c : SayK exs fns K) :
    ∃ fd : FuncData, (∀ (s : Shared) (v : Value), BindsTo s fd ⟨[v], []⟩ [("script", v)]) ∧ ∀ base : Heap, K.In base → base.Ns mainGlobals mg → FnOk P w K mg base CX0 5 f fd ["script"] ((pr_law K).sp K) := by
  have T : Txt K mg := txt_of X G c
  have e := hfa.symm.trans T.g_law
  cases e
  have b := T.F_law.bindsA (ps := ["script"]) fun _ _ _ _ _ _ us hl => match us, hl with | [_], _ => rfl
  exact ⟨_, fun s v => b s [v] rfl, fun base _ _ => ok_law T⟩
end K66
open PySem PySem.W PySem.Calls PyProof.Rows
theorem PySem.Challenge.cw_whatcomesfree_k66_greatest_of_all_ticks_holds : PySem.Challenge.rw_whatcomesfree_k66_greatest_of_all_ticks.Holds := by
  w_on; o_law
  refine HandSHeadRun.head_any (r := OpenLaw.row PySem.Challenge.rw_whatcomesfree_k66_greatest_of_all_ticks) (q := view (OpenLaw.row PySem.Challenge.rw_whatcomesfree_k66_greatest_of_all_ticks).prog [20]) (H := K66.hk) (ob := K66.ob) (M := 4000) (loose := K66.lnames) (d := HandSHeadRun.topDef (OpenLaw.row PySem.Challenge.rw_whatcomesfree_k66_greatest_of_all_ticks).prog 20) (kwd := []) K66.ob_eq
    (by kernel_rfl) (fun s => by kernel_rfl) K66.run (by kernel_rfl) (by kernel_rfl) (by kernel_rfl) (by rfl) (by first | assumption | decide +kernel) (by decide +kernel) ⟨rfl, rfl, rfl, rfl, rfl, by decide +kernel⟩ ?hw ?hc
  case hw => w_witness2
  case hc =>
    refine L2.walk_ofE (l := PySem.Challenge.rw_whatcomesfree_k66_greatest_of_all_ticks) (n := 63) (k := 5) (x := "script") (CX := L2.CX0) rfl (by decide) (by kernel_rfl) ⟨rfl, by decide, by decide⟩ ?F (fun _ _ _ _ z => z)
    intro w mg fa h Y G hmg0
    obtain ⟨K, KX, c⟩ := Y
    have hmg : mg ("law" : PySem.Str) = some (.ref fa) := by
      have e : (HandSHeadRun.topDef (OpenLaw.row PySem.Challenge.rw_whatcomesfree_k66_greatest_of_all_ticks).prog 20).name = ("law" : PySem.Str) := by kernel_rfl
      rw [← e]
      exact hmg0
    obtain ⟨fd, hb, hF⟩ := K66.law_facts (P := (PySem.Challenge.rw_whatcomesfree_k66_greatest_of_all_ticks).prog) (w := w) KX G hmg c
    exact ⟨K, fd, (K66.pr_law K).sp K, KX, hb, fun H a zs hl _ hS => K66.law_start hS, hF⟩
