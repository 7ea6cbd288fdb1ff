import PyProof.Rows.All
import Wide.All
import OpenK.AllK
import Wide.FinOn
import KE.KStateDown
import HandS.ForMost
import HandS.Deep
import HandS.IsInst
import HandS.Defaults
import HandS.CallLocal
import HandS.DictComp
import HandS.DictTup
import HandS.SortOrd
import HandS.TupSets
import HandS.Flow
import HandS.WideBits
import HandS.Conv
import HandS.TupAny
import HandS.TupLe
import HandS.Style
import HandS.Zip
import HandS.NoneIn
import HandS.Small
import HandS.SortRule
import HandS.SortInts
import HandS.RaiseMore
import HandS.TupLen
import KE.GoesEnum
import HandS.Head0
import HandS.Head1
import HandS.Head2
import HandS.HeadEnd
import HandS.HeadHook1
import HandS.HeadHook2
import HandS.Text
import PySem.Challenge.RW_eachagainst_k80_whole_texts_of_games_and
set_option Elab.async false
set_option linter.all false
set_option maxRecDepth 100000
set_option maxHeartbeats 4000000
set_option autoImplicit false

/-! IL1: pure values, worlds, the relation, steps. -/
namespace IL
open PySem PySem.Spec PyProof.Rows L2
abbrev St := L2.St

/-- a pure value: tuples and lists by what they hold -/
inductive PV where
  | non | bl (b : Bool) | int (i : Int) | str (x : Str) | ty (n : String) | fn (x : Str)
  | tup (xs : List PV) | lst (xs : List PV) | dK (ks : List Key) (vs : List PV) | dT (ks : List (List Key)) (vs : List PV) | well | scr (ns : List Int)
  deriving Inhabited

def keyPV : Key → PV
  | .inl i => .int i
  | .inr x => .str x
def keysPV (ks : List Key) : PV := .tup (ks.map keyPV)

/-- what is fixed through a law's run -/
structure Gv where
  K : PySem.W.Frag
  mg : Str → Option Value
/-- what a well holds: three numbers -/
def WellP : HO → Prop := fun o => ∃ a b c : Int, 0 ≤ a ∧ 0 ≤ b ∧ 0 ≤ c ∧ o = .lst [.int a, .int b, .int c]
def Gv.Wp (_ : Gv) : HO → Prop := WellP

/-- a dict to be read: tracked, or locked and not empty -/
def RdK (R : Hp) (a : Addr) (kvs : List (Key × V)) : Prop := R a = some (.dK kvs) ∨ (kvs ≠ [] ∧ ∃ o, R a = some (.frz o (.dK kvs)))
theorem RdK.rd {R : Hp} {a : Addr} {kvs : List (Key × V)} (h : RdK R a kvs) : Rd R a (.dK kvs) := h.elim .inl fun h => .inr h.2
mutual
inductive Rp (G : Gv) (W : Addr → Prop) (R : Hp) : V → PV → Prop
  | non : Rp G W R .non .non
  | bl (b : Bool) : Rp G W R (.bl b) (.bl b)
  | int (i : Int) : Rp G W R (.int i) (.int i)
  | str (x : Str) : Rp G W R (.str x) (.str x)
  | ty (n : String) : Rp G W R (.ty n) (.ty n)
  | fn {f : Addr} {x : Str} : G.mg x = some (.ref f) → Rp G W R (.ref f) (.fn x)
  | tup {a : Addr} {vs : List V} {xs : List PV} : R a = some (.tup vs) → Rps G W R vs xs → Rp G W R (.ref a) (.tup xs)
  | lst {a : Addr} {vs : List V} {xs : List PV} : R a = some (.lst vs) → Rps G W R vs xs → Rp G W R (.ref a) (.lst xs)
  | dK {a : Addr} {kvs : List (Key × V)} {ys : List PV} : RdK R a kvs → Rps G W R (kvs.map (·.2)) ys → Rp G W R (.ref a) (.dK (kvs.map (·.1)) ys)
  | dT {a : Addr} {kvs : List (List Key × V)} {ys : List PV} : R a = some (.dT kvs) → Rps G W R (kvs.map (·.2)) ys → Rp G W R (.ref a) (.dT (kvs.map (·.1)) ys)
  | well {a : Addr} : W a → Rp G W R (.ref a) .well
  | scr {a : Addr} {ns : List Int} : SqL G.K R a (ns.map V.int) → Rp G W R (.ref a) (.scr ns)
inductive Rps (G : Gv) (W : Addr → Prop) (R : Hp) : List V → List PV → Prop
  | nil : Rps G W R [] []
  | cons {v : V} {vs : List V} {x : PV} {xs : List PV} : Rp G W R v x → Rps G W R vs xs → Rps G W R (v :: vs) (x :: xs)
end
/-- what an owned object holds -/
inductive RpC (G : Gv) (W : Addr → Prop) (R : Hp) : HO → PV → Prop
  | lst {vs : List V} {xs : List PV} : Rps G W R vs xs → RpC G W R (.lst vs) (.lst xs)
  | dK {kvs : List (Key × V)} {ys : List PV} : Rps G W R (kvs.map (·.2)) ys → RpC G W R (.dK kvs) (.dK (kvs.map (·.1)) ys)
  | dT {kvs : List (List Key × V)} {ys : List PV} : Rps G W R (kvs.map (·.2)) ys → RpC G W R (.dT kvs) (.dT (kvs.map (·.1)) ys)

theorem SqT.same {K : PySem.W.Frag} {H H' : Hp} {a : Addr} {xs : List V} (e : Same H H') (h : SqT K H a xs) : SqT K H' a xs := by
  rcases h with (h | ⟨o, h⟩) | h
  · exact .inl (.inl (e _ _ h))
  · exact .inl (.inr ⟨o, e _ _ h⟩)
  · exact .inr h
theorem Rd.same {H H' : Hp} {a : Addr} {u : HO} (e : Same H H') (h : Rd H a u) : Rd H' a u := by
  rcases h with h | ⟨o, h⟩
  · exact .inl (e _ _ h)
  · exact .inr ⟨o, e _ _ h⟩

theorem RdK.same {H H' : Hp} {a : Addr} {u : List (Key × V)} (e : Same H H') (h : RdK H a u) : RdK H' a u := by
  rcases h with h | ⟨n, o, h⟩
  · exact .inl (e _ _ h)
  · exact .inr ⟨n, o, e _ _ h⟩
section
variable {G : Gv} {W W' : Addr → Prop} {R R' : Hp}
mutual
theorem Rp.mono (hW : ∀ b, W b → W' b) (hR : Same R R') : ∀ {v : V} {x : PV}, Rp G W R v x → Rp G W' R' v x
  | _, _, .non => .non
  | _, _, .bl b => .bl b
  | _, _, .int i => .int i
  | _, _, .str x => .str x
  | _, _, .ty n => .ty n
  | _, _, .fn h => .fn h
  | _, _, .tup h r => .tup (hR _ _ h) (Rps.mono hW hR r)
  | _, _, .lst h r => .lst (hR _ _ h) (Rps.mono hW hR r)
  | _, _, .dK h r => .dK (RdK.same hR h) (Rps.mono hW hR r)
  | _, _, .dT h r => .dT (hR _ _ h) (Rps.mono hW hR r)
  | _, _, .well h => .well (hW _ h)
  | _, _, .scr h => .scr (Same.seq hR h)
theorem Rps.mono (hW : ∀ b, W b → W' b) (hR : Same R R') : ∀ {vs : List V} {xs : List PV}, Rps G W R vs xs → Rps G W' R' vs xs
  | _, _, .nil => .nil
  | _, _, .cons h r => .cons (Rp.mono hW hR h) (Rps.mono hW hR r)
end
theorem RpC.mono (hW : ∀ b, W b → W' b) (hR : Same R R') {o : HO} {x : PV} : RpC G W R o x → RpC G W' R' o x
  | .lst r => .lst (r.mono hW hR)
  | .dK r => .dK (r.mono hW hR)
  | .dT r => .dT (r.mono hW hR)
theorem Rps.length : ∀ {vs : List V} {xs : List PV}, Rps G W R vs xs → vs.length = xs.length
  | _, _, .nil => rfl
  | _, _, .cons _ r => congrArg Nat.succ r.length
theorem Rps.get : ∀ {vs : List V} {xs : List PV} (i : Nat) {v : V}, Rps G W R vs xs → vs[i]? = some v → ∃ x, xs[i]? = some x ∧ Rp G W R v x
  | _, _, _, _, .nil, e => by simp at e
  | _, _, 0, _, .cons h _, e => by simp at e; subst e; exact ⟨_, rfl, h⟩
  | _, _, i + 1, _, .cons _ r, e => by
    obtain ⟨x, h1, h2⟩ := Rps.get i r (by simpa using e)
    exact ⟨x, by simpa using h1, h2⟩
theorem Rps.get' : ∀ {vs : List V} {xs : List PV} (i : Nat) {x : PV}, Rps G W R vs xs → xs[i]? = some x → ∃ v, vs[i]? = some v ∧ Rp G W R v x
  | _, _, _, _, .nil, e => by simp at e
  | _, _, 0, _, .cons h _, e => by simp at e; subst e; exact ⟨_, rfl, h⟩
  | _, _, i + 1, _, .cons _ r, e => by
    obtain ⟨x, h1, h2⟩ := Rps.get' i r (by simpa using e)
    exact ⟨x, by simpa using h1, h2⟩
theorem Rps.append : ∀ {vs us : List V} {xs ys : List PV}, Rps G W R vs xs → Rps G W R us ys → Rps G W R (vs ++ us) (xs ++ ys)
  | _, _, _, _, .nil, s => s
  | _, _, _, _, .cons h r, s => .cons h (r.append s)
theorem Rps.one {v : V} {x : PV} (h : Rp G W R v x) : Rps G W R [v] [x] := .cons h .nil
theorem Rps.take : ∀ {vs : List V} {xs : List PV} (n : Nat), Rps G W R vs xs → Rps G W R (vs.take n) (xs.take n)
  | _, _, 0, _ => .nil
  | _, _, _ + 1, .nil => .nil
  | _, _, n + 1, .cons h r => .cons h (Rps.take n r)
theorem Rps.drop : ∀ {vs : List V} {xs : List PV} (n : Nat), Rps G W R vs xs → Rps G W R (vs.drop n) (xs.drop n)
  | _, _, 0, r => r
  | _, _, _ + 1, .nil => .nil
  | _, _, n + 1, .cons _ r => Rps.drop n r
theorem Rps.set {v : V} {x : PV} (h : Rp G W R v x) : ∀ {vs : List V} {xs : List PV} (n : Nat), Rps G W R vs xs → Rps G W R (vs.set n v) (xs.set n x)
  | _, _, _, .nil => .nil
  | _, _, 0, .cons _ r => .cons h r
  | _, _, n + 1, .cons q r => .cons q (Rps.set h n r)
theorem Rps.eraseIdx : ∀ {vs : List V} {xs : List PV} (n : Nat), Rps G W R vs xs → Rps G W R (vs.eraseIdx n) (xs.eraseIdx n)
  | _, _, _, .nil => .nil
  | _, _, 0, .cons _ r => r
  | _, _, n + 1, .cons q r => .cons q (Rps.eraseIdx n r)
theorem Rps.reverse : ∀ {vs : List V} {xs : List PV}, Rps G W R vs xs → Rps G W R vs.reverse xs.reverse
  | _, _, .nil => .nil
  | _, _, .cons h r => by
    rw [List.reverse_cons, List.reverse_cons]
    exact r.reverse.append (.one h)
theorem Rps.ints : ∀ (ns : List Int), Rps G W R (ns.map V.int) (ns.map PV.int)
  | [] => .nil
  | n :: ns => .cons (.int n) (Rps.ints ns)
theorem Rps.ints_inv : ∀ {ns : List Int} {vs : List V}, Rps G W R vs (ns.map PV.int) → vs = ns.map V.int
  | [], _, .nil => rfl
  | n :: ns, _, .cons h r => by
    cases h
    rw [Rps.ints_inv r]
    rfl
theorem Rps.strs : ∀ (ns : List Str), Rps G W R (ns.map V.str) (ns.map PV.str)
  | [] => .nil
  | n :: ns => .cons (.str n) (Rps.strs ns)
theorem Rps.strs_inv : ∀ {ns : List Str} {vs : List V}, Rps G W R vs (ns.map PV.str) → vs = ns.map V.str
  | [], _, .nil => rfl
  | n :: ns, _, .cons h r => by
    cases h
    rw [Rps.strs_inv r]
    rfl
theorem Rps.bls_inv : ∀ {ns : List Bool} {vs : List V}, Rps G W R vs (ns.map PV.bl) → vs = ns.map V.bl
  | [], _, .nil => rfl
  | n :: ns, _, .cons h r => by
    cases h
    rw [Rps.bls_inv r]
    rfl
theorem Rps.mem : ∀ {vs : List V} {xs : List PV} {v : V}, Rps G W R vs xs → v ∈ vs → ∃ x ∈ xs, Rp G W R v x
  | _, _, _, .nil, h => by simp at h
  | _, _, v, .cons h r, m => by
    rcases List.mem_cons.mp m with rfl | m
    · exact ⟨_, List.mem_cons_self, h⟩
    · obtain ⟨x, hx, q⟩ := Rps.mem r m
      exact ⟨x, List.mem_cons_of_mem _ hx, q⟩
end

/-! ### worlds -/
/-- W: the wells; O: what the callers own, and temporaries; A: what each slot owns; H: the heap -/
structure Wd where
  W : Addr → Prop
  O : Addr → Prop
  A : List (Option Addr)
  H : Hp
def Wd.D (d : Wd) (b : Addr) : Prop := d.W b ∨ d.O b ∨ some b ∈ d.A
open Classical in
noncomputable def msk (D : Addr → Prop) (H : Hp) : Hp := fun b => if D b then none else H b
theorem msk_some {D : Addr → Prop} {H : Hp} {b : Addr} {o : HO} : msk D H b = some o ↔ ¬ D b ∧ H b = some o := by
  unfold msk
  by_cases h : D b
  · rw [if_pos h]
    exact ⟨(fun e => nomatch e), (fun e => absurd h e.1)⟩
  · rw [if_neg h]
    exact ⟨(fun e => ⟨h, e⟩), (fun e => e.2)⟩
noncomputable abbrev Wd.R (d : Wd) : Hp := msk d.D d.H
theorem R_sub {d : Wd} : Same d.R d.H := fun _ _ h => (msk_some.mp h).2
def Wd.add (d : Wd) (p : Addr) : Wd := { d with O := fun b => d.O b ∨ b = p }

/-- no longer than the line -/
def Sm : HO → Prop
  | .lst xs => xs.length ≤ sizeLine
  | .tup xs => xs.length ≤ sizeLine
  | .dK kvs => kvs.length ≤ sizeLine
  | .dT kvs => kvs.length ≤ sizeLine
  | _ => True
structure Wd.Ok (G : Gv) (d : Wd) : Prop where
  dWO : ∀ b, d.W b → ¬ d.O b
  dWA : ∀ b, d.W b → some b ∉ d.A
  dOA : ∀ b, d.O b → some b ∉ d.A
  inj : ∀ (i j : Nat) b, d.A[i]? = some (some b) → d.A[j]? = some (some b) → i = j
  al : ∀ b, d.D b → d.H b ≠ none
  wl : ∀ b, d.W b → ∃ o, d.H b = some o ∧ G.Wp o
  sm : ∀ b o, d.H b = some o → Sm o

structure Stp (d d' : Wd) : Prop where
  O : d'.O = d.O
  keep : ∀ b o, d.H b = some o → ¬ d.W b → some b ∉ d.A → d'.H b = some o
  al : ∀ b, d.H b ≠ none → d'.H b ≠ none
  w1 : ∀ b, d.W b → d'.W b
  w2 : ∀ b, d'.W b → d.W b ∨ d.H b = none
  a2 : ∀ b, some b ∈ d'.A → some b ∈ d.A ∨ d.H b = none
theorem Stp.refl (d : Wd) : Stp d d := ⟨rfl, fun _ _ h _ _ => h, fun _ h => h, fun _ h => h, fun _ h => .inl h, fun _ h => .inl h⟩
theorem Stp.trans {a b c : Wd} (s : Stp a b) (t : Stp b c) : Stp a c where
  O := t.O.trans s.O
  keep := fun x o h hw ha => by
    have h1 := s.keep x o h hw ha
    have nn : a.H x ≠ none := by rw [h]; simp
    refine t.keep x o h1 (fun z => ?_) (fun z => ?_)
    · rcases s.w2 x z with z | z
      · exact hw z
      · exact nn z
    · rcases s.a2 x z with z | z
      · exact ha z
      · exact nn z
  al := fun x h => t.al x (s.al x h)
  w1 := fun x h => t.w1 x (s.w1 x h)
  w2 := fun x h => by
    rcases t.w2 x h with h | h
    · exact s.w2 x h
    · refine .inr ?_
      cases e : a.H x with
      | none => rfl
      | some o => exact absurd h (s.al x (by rw [e]; simp))
  a2 := fun x h => by
    rcases t.a2 x h with h | h
    · exact s.a2 x h
    · refine .inr ?_
      cases e : a.H x with
      | none => rfl
      | some o => exact absurd h (s.al x (by rw [e]; simp))
theorem Stp.same {d d' : Wd} (s : Stp d d') : Same d.R d'.R := fun b o h => by
  obtain ⟨hd, hb⟩ := msk_some.mp h
  have hW : ¬ d.W b := fun z => hd (.inl z)
  have hO : ¬ d.O b := fun z => hd (.inr (.inl z))
  have hA : some b ∉ d.A := fun z => hd (.inr (.inr z))
  have nn : d.H b ≠ none := by rw [hb]; simp
  refine msk_some.mpr ⟨fun z => ?_, s.keep b o hb hW hA⟩
  rcases z with z | z | z
  · rcases s.w2 b z with z | z
    · exact hW z
    · exact nn z
  · rw [s.O] at z
    exact hO z
  · rcases s.a2 b z with z | z
    · exact hA z
    · exact nn z
theorem Stp.rp {G : Gv} {d d' : Wd} (s : Stp d d') {v : V} {x : PV} (h : Rp G d.W d.R v x) : Rp G d'.W d'.R v x := h.mono s.w1 s.same
theorem Stp.rps {G : Gv} {d d' : Wd} (s : Stp d d') {v : List V} {x : List PV} (h : Rps G d.W d.R v x) : Rps G d'.W d'.R v x := h.mono s.w1 s.same
theorem Stp.rpc {G : Gv} {d d' : Wd} (s : Stp d d') {o : HO} {x : PV} (h : RpC G d.W d.R o x) : RpC G d'.W d'.R o x := h.mono s.w1 s.same

/-- the same where more may be owned outside -/
structure StpW (d d' : Wd) : Prop where
  keep : ∀ b o, d.H b = some o → ¬ d.W b → some b ∉ d.A → d'.H b = some o
  al : ∀ b, d.H b ≠ none → d'.H b ≠ none
  w1 : ∀ b, d.W b → d'.W b
  w2 : ∀ b, d'.W b → d.W b ∨ d.H b = none
  a2 : ∀ b, some b ∈ d'.A → some b ∈ d.A ∨ d.H b = none
  o2 : ∀ b, d'.O b → d.O b ∨ d.H b = none
theorem Stp.w {d d' : Wd} (s : Stp d d') : StpW d d' := ⟨s.keep, s.al, s.w1, s.w2, s.a2, fun b h => .inl (by rw [← s.O]; exact h)⟩
theorem StpW.un {a : Wd} {c : Wd} (s : StpW a c) {b : Addr} (h : c.H b = none) : a.H b = none := by
  cases e : a.H b with
  | none => rfl
  | some o => exact absurd h (s.al b (by rw [e]; simp))
theorem StpW.trans {a b c : Wd} (s : StpW a b) (t : StpW b c) : StpW a c where
  keep := fun x o h hw ha => by
    have h1 := s.keep x o h hw ha
    have nn : a.H x ≠ none := by rw [h]; simp
    refine t.keep x o h1 (fun z => ?_) (fun z => ?_)
    · rcases s.w2 x z with z | z
      · exact hw z
      · exact nn z
    · rcases s.a2 x z with z | z
      · exact ha z
      · exact nn z
  al := fun x h => t.al x (s.al x h)
  w1 := fun x h => t.w1 x (s.w1 x h)
  w2 := fun x h => (t.w2 x h).elim (s.w2 x) fun h => .inr (s.un h)
  a2 := fun x h => (t.a2 x h).elim (s.a2 x) fun h => .inr (s.un h)
  o2 := fun x h => (t.o2 x h).elim (s.o2 x) fun h => .inr (s.un h)
theorem StpW.same {d d' : Wd} (s : StpW d d') : Same d.R d'.R := fun b o h => by
  obtain ⟨hd, hb⟩ := msk_some.mp h
  have hW : ¬ d.W b := fun z => hd (.inl z)
  have hO : ¬ d.O b := fun z => hd (.inr (.inl z))
  have hA : some b ∉ d.A := fun z => hd (.inr (.inr z))
  have nn : d.H b ≠ none := by rw [hb]; simp
  refine msk_some.mpr ⟨fun z => ?_, s.keep b o hb hW hA⟩
  rcases z with z | z | z
  · rcases s.w2 b z with z | z
    · exact hW z
    · exact nn z
  · rcases s.o2 b z with z | z
    · exact hO z
    · exact nn z
  · rcases s.a2 b z with z | z
    · exact hA z
    · exact nn z
theorem StpW.rp {G : Gv} {d d' : Wd} (s : StpW d d') {v : V} {x : PV} (h : Rp G d.W d.R v x) : Rp G d'.W d'.R v x := h.mono s.w1 s.same
theorem StpW.rps {G : Gv} {d d' : Wd} (s : StpW d d') {v : List V} {x : List PV} (h : Rps G d.W d.R v x) : Rps G d'.W d'.R v x := h.mono s.w1 s.same
/-- a step that may write what is owned outside, too -/
structure StpU (d d' : Wd) : Prop where
  keep : ∀ b o, d.H b = some o → ¬ d.W b → ¬ d.O b → some b ∉ d.A → d'.H b = some o
  al : ∀ b, d.H b ≠ none → d'.H b ≠ none
  w1 : ∀ b, d.W b → d'.W b
  w2 : ∀ b, d'.W b → d.W b ∨ d.H b = none
  a2 : ∀ b, some b ∈ d'.A → some b ∈ d.A ∨ d.H b = none
  o2 : ∀ b, d'.O b → d.O b ∨ d.H b = none
theorem StpW.u {d d' : Wd} (s : StpW d d') : StpU d d' := ⟨fun b o h hw _ ha => s.keep b o h hw ha, s.al, s.w1, s.w2, s.a2, s.o2⟩
theorem Stp.u {d d' : Wd} (s : Stp d d') : StpU d d' := s.w.u
theorem StpU.un {a : Wd} {c : Wd} (s : StpU a c) {b : Addr} (h : c.H b = none) : a.H b = none := by
  cases e : a.H b with
  | none => rfl
  | some o => exact absurd h (s.al b (by rw [e]; simp))
theorem StpU.trans {a b c : Wd} (s : StpU a b) (t : StpU b c) : StpU a c where
  keep := fun x o h hw ho ha => by
    have h1 := s.keep x o h hw ho ha
    have nn : a.H x ≠ none := by rw [h]; simp
    refine t.keep x o h1 (fun z => ?_) (fun z => ?_) (fun z => ?_)
    · rcases s.w2 x z with z | z
      · exact hw z
      · exact nn z
    · rcases s.o2 x z with z | z
      · exact ho z
      · exact nn z
    · rcases s.a2 x z with z | z
      · exact ha z
      · exact nn z
  al := fun x h => t.al x (s.al x h)
  w1 := fun x h => t.w1 x (s.w1 x h)
  w2 := fun x h => (t.w2 x h).elim (s.w2 x) fun h => .inr (s.un h)
  a2 := fun x h => (t.a2 x h).elim (s.a2 x) fun h => .inr (s.un h)
  o2 := fun x h => (t.o2 x h).elim (s.o2 x) fun h => .inr (s.un h)
theorem StpU.same {d d' : Wd} (s : StpU d d') : Same d.R d'.R := fun b o h => by
  obtain ⟨hd, hb⟩ := msk_some.mp h
  have hW : ¬ d.W b := fun z => hd (.inl z)
  have hO : ¬ d.O b := fun z => hd (.inr (.inl z))
  have hA : some b ∉ d.A := fun z => hd (.inr (.inr z))
  have nn : d.H b ≠ none := by rw [hb]; simp
  refine msk_some.mpr ⟨fun z => ?_, s.keep b o hb hW hO hA⟩
  rcases z with z | z | z
  · rcases s.w2 b z with z | z
    · exact hW z
    · exact nn z
  · rcases s.o2 b z with z | z
    · exact hO z
    · exact nn z
  · rcases s.a2 b z with z | z
    · exact hA z
    · exact nn z
theorem StpU.rp {G : Gv} {d d' : Wd} (s : StpU d d') {v : V} {x : PV} (h : Rp G d.W d.R v x) : Rp G d'.W d'.R v x := h.mono s.w1 s.same
theorem StpU.rps {G : Gv} {d d' : Wd} (s : StpU d d') {v : List V} {x : List PV} (h : Rps G d.W d.R v x) : Rps G d'.W d'.R v x := h.mono s.w1 s.same
theorem msk_upd {D : Addr → Prop} {H : Hp} {p : Addr} {o : HO} (h : D p) : msk D (upd H p o) = msk D H := by
  funext b
  unfold msk
  by_cases hb : D b
  · rw [if_pos hb, if_pos hb]
  · rw [if_neg hb, if_neg hb, upd_ne (fun e => hb (by rw [e]; exact h))]

/-! ### slots -/
/-- a value on its way: shared, or owned by who holds it -/
inductive TV where
  | v (x : PV)
  | own (x : PV)
def TV.pv : TV → PV
  | .v x => x
  | .own x => x
abbrev Env := List (Option TV)

structure Rel (G : Gv) (d : Wd) (env : Env) (σ : St) : Prop where
  ok : d.Ok G
  lenA : d.A.length = env.length
  lenS : σ.length = env.length
  sl : ∀ (i : Nat) x, env[i]? = some (some (.v x)) → ∃ v, σ[i]? = some (some v) ∧ Rp G d.W d.R v x
  so : ∀ (i : Nat) x, env[i]? = some (some (.own x)) → ∃ a o, d.A[i]? = some (some a) ∧ σ[i]? = some (some (.ref a)) ∧ d.H a = some o ∧ RpC G d.W d.R o x

/-- less is owned outside -/
theorem Wd.Ok.lessO {G : Gv} {d : Wd} (h : d.Ok G) {O : Addr → Prop} (hO : ∀ b, O b → d.O b) : Wd.Ok G { d with O := O } :=
  ⟨fun b z y => h.dWO b z (hO b y), h.dWA, fun b z => h.dOA b (hO b z), h.inj, fun b z => h.al b (z.elim .inl fun z => .inr (z.elim (fun z => .inl (hO b z)) .inr)), h.wl, h.sm⟩
theorem same_lessO {d : Wd} {O : Addr → Prop} (hO : ∀ b, O b → d.O b) : Same d.R ({ d with O := O } : Wd).R := fun b o h => by
  obtain ⟨hd, hb⟩ := msk_some.mp h
  refine msk_some.mpr ⟨fun z => hd ?_, hb⟩
  rcases z with z | z | z
  · exact .inl z
  · exact .inr (.inl (hO b z))
  · exact .inr (.inr z)
theorem Rel.lessO {G : Gv} {d : Wd} {env : Env} {σ : St} (h : Rel G d env σ) {O : Addr → Prop} (hO : ∀ b, O b → d.O b) : Rel G { d with O := O } env σ where
  ok := h.ok.lessO hO
  lenA := h.lenA
  lenS := h.lenS
  sl := fun i x e => by
    obtain ⟨v, h1, h2⟩ := h.sl i x e
    exact ⟨v, h1, h2.mono (fun _ z => z) (same_lessO hO)⟩
  so := fun i x e => by
    obtain ⟨a, o, h1, h2, h3, h4⟩ := h.so i x e
    exact ⟨a, o, h1, h2, h3, h4.mono (fun _ z => z) (same_lessO hO)⟩

theorem mem_set_none {A : List (Option Addr)} {i : Nat} {b : Addr} (h : some b ∈ A.set i none) : some b ∈ A := by
  obtain ⟨j, hj⟩ := List.mem_iff_getElem?.mp h
  by_cases e : j = i
  · subst e
    by_cases hl : j < A.length
    · rw [List.getElem?_set_self hl] at hj
      cases hj
    · rw [List.getElem?_eq_none (by simp; omega)] at hj
      cases hj
  · rw [List.getElem?_set_ne (Ne.symm e)] at hj
    exact List.mem_iff_getElem?.mpr ⟨j, hj⟩
theorem mem_set_some {A : List (Option Addr)} {i : Nat} {b p : Addr} (h : some b ∈ A.set i (some p)) : b = p ∨ some b ∈ A := by
  obtain ⟨j, hj⟩ := List.mem_iff_getElem?.mp h
  by_cases e : j = i
  · subst e
    by_cases hl : j < A.length
    · rw [List.getElem?_set_self hl] at hj
      cases hj
      exact .inl rfl
    · rw [List.getElem?_eq_none (by simp; omega)] at hj
      cases hj
  · rw [List.getElem?_set_ne (Ne.symm e)] at hj
    exact .inr (List.mem_iff_getElem?.mpr ⟨j, hj⟩)
theorem set_get {α : Type} {A : List α} {i j : Nat} {x b : α} (h : (A.set i x)[j]? = some b) : (j = i ∧ b = x) ∨ (j ≠ i ∧ A[j]? = some b) := by
  by_cases e : j = i
  · subst e
    by_cases hl : j < A.length
    · rw [List.getElem?_set_self hl] at h
      cases h
      exact .inl ⟨rfl, rfl⟩
    · rw [List.getElem?_eq_none (by simp; omega)] at h
      cases h
  · rw [List.getElem?_set_ne (Ne.symm e)] at h
    exact .inr ⟨e, h⟩

/-- a slot's object is given up -/
def Wd.drop (d : Wd) (i : Nat) : Wd := { d with A := d.A.set i none }
theorem Stp.drop (d : Wd) (i : Nat) : Stp d (d.drop i) := ⟨rfl, fun _ _ h _ _ => h, fun _ h => h, fun _ h => h, fun _ h => .inl h, fun _ h => .inl (mem_set_none h)⟩
theorem Wd.Ok.drop {G : Gv} {d : Wd} (h : d.Ok G) (i : Nat) : (d.drop i).Ok G :=
  ⟨h.dWO, fun b z y => h.dWA b z (mem_set_none y), fun b z y => h.dOA b z (mem_set_none y), fun j k b e1 e2 => by
    rcases set_get e1 with ⟨_, z⟩ | ⟨_, e1⟩
    · cases z
    · rcases set_get e2 with ⟨_, z⟩ | ⟨_, e2⟩
      · cases z
      · exact h.inj j k b e1 e2, fun b z => h.al b (z.elim .inl fun z => .inr (z.elim .inl fun z => .inr (mem_set_none z))), h.wl, h.sm⟩
/-- a shared value is stored -/
theorem Rel.setv {G : Gv} {d : Wd} {env : Env} {σ : St} (h : Rel G d env σ) {i : Nat} {v : V} {x : PV} (r : Rp G d.W d.R v x) : Rel G (d.drop i) (env.set i (some (.v x))) (σ.set i (some v)) where
  ok := h.ok.drop i
  lenA := by simp [Wd.drop, h.lenA]
  lenS := by simp [h.lenS]
  sl := fun j y e => by
    rcases set_get e with ⟨rfl, e2⟩ | ⟨hj, e⟩
    · cases e2
      have hi : j < env.length := by
        have := (List.getElem?_eq_some_iff.mp e).1
        simpa using this
      exact ⟨v, List.getElem?_set_self (by rw [h.lenS]; exact hi), (Stp.drop d j).rp r⟩
    · obtain ⟨u, h1, h2⟩ := h.sl j y e
      exact ⟨u, by rw [List.getElem?_set_ne (Ne.symm hj)]; exact h1, (Stp.drop d i).rp h2⟩
  so := fun j y e => by
    rcases set_get e with ⟨rfl, e2⟩ | ⟨hj, e⟩
    · cases e2
    · obtain ⟨a, o, h1, h2, h3, h4⟩ := h.so j y e
      exact ⟨a, o, by show (d.A.set i none)[j]? = _; rw [List.getElem?_set_ne (Ne.symm hj)]; exact h1, by rw [List.getElem?_set_ne (Ne.symm hj)]; exact h2, h3, (Stp.drop d i).rpc h4⟩
/-- a slot takes what was owned on its way -/
def Wd.take (d : Wd) (i : Nat) (p : Addr) : Wd := { d with A := d.A.set i (some p) }
theorem Rel.seto {G : Gv} {d : Wd} {env : Env} {σ : St} {p : Addr} {o : HO} {x : PV} (h : Rel G (d.add p) env σ) (hp : ¬ d.D p) (e : d.H p = some o) (r : RpC G d.W (d.add p).R o x) {i : Nat} : Rel G (d.take i p) (env.set i (some (.own x))) (σ.set i (some (.ref p))) := by
  have same : Same (d.add p).R (d.take i p).R := fun b u q => by
    obtain ⟨hd, hb⟩ := msk_some.mp q
    refine msk_some.mpr ⟨fun z => hd ?_, hb⟩
    rcases z with z | z | z
    · exact .inl z
    · exact .inr (.inl (.inl z))
    · rcases mem_set_some z with z | z
      · exact .inr (.inl (.inr z))
      · exact .inr (.inr z)
  refine ⟨⟨fun b z y => h.ok.dWO b z (.inl y), fun b z y => ?_, fun b z y => ?_, fun j k b e1 e2 => ?_, fun b z => ?_, h.ok.wl, h.ok.sm⟩, by simp [Wd.take]; exact h.lenA, by simp [h.lenS], fun j y q => ?_, fun j y q => ?_⟩
  · rcases mem_set_some y with y | y
    · subst y; exact hp (.inl z)
    · exact h.ok.dWA b z y
  · rcases mem_set_some y with y | y
    · subst y; exact hp (.inr (.inl z))
    · exact h.ok.dOA b (.inl z) y
  · rcases set_get e1 with ⟨h1, z1⟩ | ⟨h1, z1⟩
    · rcases set_get e2 with ⟨h2, z2⟩ | ⟨h2, z2⟩
      · rw [h1, h2]
      · cases z1
        exact absurd (List.mem_iff_getElem?.mpr ⟨k, z2⟩) fun z => hp (.inr (.inr z))
    · rcases set_get e2 with ⟨h2, z2⟩ | ⟨h2, z2⟩
      · cases z2
        exact absurd (List.mem_iff_getElem?.mpr ⟨j, z1⟩) fun z => hp (.inr (.inr z))
      · exact h.ok.inj j k b z1 z2
  · rcases z with z | z | z
    · exact h.ok.al b (.inl z)
    · exact h.ok.al b (.inr (.inl (.inl z)))
    · rcases mem_set_some z with z | z
      · subst z; show d.H b ≠ none; rw [e]; simp
      · exact h.ok.al b (.inr (.inr z))
  · rcases set_get q with ⟨_, z⟩ | ⟨hj, q⟩
    · cases z
    · obtain ⟨v, h1, h2⟩ := h.sl j y q
      exact ⟨v, by rw [List.getElem?_set_ne (Ne.symm hj)]; exact h1, h2.mono (fun _ z => z) same⟩
  · rcases set_get q with ⟨hj, z⟩ | ⟨hj, q⟩
    · subst hj
      cases z
      have hi : j < env.length := by
        have := (List.getElem?_eq_some_iff.mp q).1
        simpa using this
      exact ⟨p, o, List.getElem?_set_self (by have := h.lenA; have : d.A.length = env.length := this; omega), List.getElem?_set_self (by rw [h.lenS]; exact hi), e, r.mono (fun _ z => z) same⟩
    · obtain ⟨a, u, h1, h2, h3, h4⟩ := h.so j y q
      exact ⟨a, u, by show (d.A.set i (some p))[j]? = _; rw [List.getElem?_set_ne (Ne.symm hj)]; exact h1, by rw [List.getElem?_set_ne (Ne.symm hj)]; exact h2, h3, h4.mono (fun _ z => z) same⟩
theorem Stp.take {d : Wd} {c : Wd} {i : Nat} {p : Addr} (s : Stp c d) (hp : c.H p = none) : Stp c (d.take i p) :=
  ⟨s.O, s.keep, s.al, s.w1, s.w2, fun b z => (mem_set_some z).elim (fun z => .inr (by rw [z]; exact hp)) (s.a2 b)⟩
/-- an owned one is shared from here on -/
theorem Rel.freeze {G : Gv} {d : Wd} {env : Env} {σ : St} (h : Rel G d env σ) {i : Nat} {x : PV} (e : env[i]? = some (some (.own x))) :
    ∃ a, σ[i]? = some (some (.ref a)) ∧ Rp G (d.drop i).W (d.drop i).R (.ref a) x ∧ Rel G (d.drop i) (env.set i (some (.v x))) σ := by
  obtain ⟨a, o, h1, h2, h3, h4⟩ := h.so i x e
  have hi : i < env.length := (List.getElem?_eq_some_iff.mp e).1
  have ha : (d.drop i).R a = some o := by
    refine msk_some.mpr ⟨fun z => ?_, h3⟩
    have hm : some a ∈ d.A := List.mem_iff_getElem?.mpr ⟨i, h1⟩
    rcases z with z | z | z
    · exact h.ok.dWA a z hm
    · exact h.ok.dOA a z hm
    · obtain ⟨j, hj⟩ := List.mem_iff_getElem?.mp z
      rcases set_get (show (d.A.set i none)[j]? = some (some a) from hj) with ⟨_, y⟩ | ⟨hne, hj⟩
      · cases y
      · exact hne (h.ok.inj j i a hj h1)
  have hr : Rp G (d.drop i).W (d.drop i).R (.ref a) x := by
    have h4' := (Stp.drop d i).rpc h4
    cases h4' with
    | lst r => exact .lst ha r
    | dK r => exact .dK (.inl ha) r
    | dT r => exact .dT ha r
  refine ⟨a, h2, hr, ⟨h.ok.drop i, by simp [Wd.drop, h.lenA], by simp [h.lenS], fun j y e' => ?_, fun j y e' => ?_⟩⟩
  · rcases set_get e' with ⟨rfl, e2⟩ | ⟨hj, e'⟩
    · cases e2
      exact ⟨_, h2, hr⟩
    · obtain ⟨u, h1, h2⟩ := h.sl j y e'
      exact ⟨u, h1, (Stp.drop d i).rp h2⟩
  · rcases set_get e' with ⟨rfl, e2⟩ | ⟨hj, e'⟩
    · cases e2
    · obtain ⟨a, o, h1, h2, h3, h4⟩ := h.so j y e'
      exact ⟨a, o, by show (d.A.set i none)[j]? = _; rw [List.getElem?_set_ne (Ne.symm hj)]; exact h1, h2, h3, (Stp.drop d i).rpc h4⟩

/-- what an expression hands back -/
inductive Post (G : Gv) (d d' : Wd) (env : Env) (σ : St) : TV → V → Prop
  | v {x : PV} {v : V} : Rel G d' env σ → Rp G d'.W d'.R v x → Post G d d' env σ (.v x) v
  | own {x : PV} {p : Addr} {o : HO} : d.H p = none → ¬ d'.D p → Rel G (d'.add p) env σ → d'.H p = some o → RpC G d'.W (d'.add p).R o x → Post G d d' env σ (.own x) (.ref p)
theorem same_add {d : Wd} {p : Addr} : Same (d.add p).R d.R := fun b o h => by
  obtain ⟨hd, hb⟩ := msk_some.mp h
  refine msk_some.mpr ⟨fun z => hd ?_, hb⟩
  rcases z with z | z | z
  · exact .inl z
  · exact .inr (.inl (.inl z))
  · exact .inr (.inr z)
theorem Rel.unadd {G : Gv} {d : Wd} {p : Addr} {env : Env} {σ : St} (h : Rel G (d.add p) env σ) : Rel G d env σ := by
  have := h.lessO (O := d.O) fun b z => Or.inl z
  exact this
theorem RpC.rp {G : Gv} {W : Addr → Prop} {R : Hp} {o : HO} {x : PV} {p : Addr} (h : RpC G W R o x) (hp : R p = some o) : Rp G W R (.ref p) x := by
  cases h with
  | lst r => exact .lst hp r
  | dK r => exact .dK (.inl hp) r
  | dT r => exact .dT hp r
theorem Post.frz {G : Gv} {d d' : Wd} {env : Env} {σ : St} {tv : TV} {v : V} (h : Post G d d' env σ tv v) : Rel G d' env σ ∧ Rp G d'.W d'.R v tv.pv := by
  cases h with
  | v r h => exact ⟨r, h⟩
  | own h0 hp r e h => exact ⟨r.unadd, (h.mono (fun _ z => z) same_add).rp (msk_some.mpr ⟨hp, e⟩)⟩
/-- the start may lie earlier -/
theorem Post.from {G : Gv} {c d d' : Wd} {env : Env} {σ : St} {tv : TV} {v : V} (s : Stp c d) (h : Post G d d' env σ tv v) : Post G c d' env σ tv v := by
  cases h with
  | v r h => exact .v r h
  | @own x p o h0 hp r e h =>
    refine .own ?_ hp r e h
    cases q : c.H p with
    | none => rfl
    | some o => exact absurd h0 (s.al p (by rw [q]; simp))

/-- an operation's result by values: nothing made; a tuple made; an owned thing made -/
inductive Res (G : Gv) (d : Wd) : TV → V → Hp → Prop
  | same {x : PV} {v : V} : Rp G d.W d.R v x → Res G d (.v x) v d.H
  | tup {p : Addr} {vs : List V} {xs : List PV} : d.H p = none → vs.length ≤ sizeLine → Rps G d.W d.R vs xs → Res G d (.v (.tup xs)) (.ref p) (upd d.H p (.tup vs))
  | own {p : Addr} {o : HO} {x : PV} : d.H p = none → Sm o → RpC G d.W d.R o x → Res G d (.own x) (.ref p) (upd d.H p o)
def Wd.up (d : Wd) (p : Addr) (o : HO) : Wd := { d with H := upd d.H p o }
theorem upd_ne_none {H : Hp} {p b : Addr} {o : HO} (h : H b ≠ none) : upd H p o b ≠ none := by
  by_cases e : b = p
  · subst e; rw [upd_same]; simp
  · rw [upd_ne e]; exact h
theorem Stp.up {d : Wd} {p : Addr} {o : HO} (hp : d.H p = none) : Stp d (d.up p o) :=
  ⟨rfl, fun b u h _ _ => by show upd d.H p o b = some u; rw [upd_ne (ne_of_none h hp)]; exact h, fun b h => upd_ne_none h, fun _ h => h, fun _ h => .inl h, fun _ h => .inl h⟩
theorem Wd.Ok.free {G : Gv} {d : Wd} (h : d.Ok G) {p : Addr} (hp : d.H p = none) : ¬ d.D p := fun z => h.al p z hp
theorem Wd.Ok.up {G : Gv} {d : Wd} (h : d.Ok G) {p : Addr} {o : HO} (hp : d.H p = none) (hs : Sm o) : (d.up p o).Ok G :=
  ⟨h.dWO, h.dWA, h.dOA, h.inj, fun b z => upd_ne_none (h.al b z), fun b z => by
    obtain ⟨u, e, q⟩ := h.wl b z
    exact ⟨u, by show upd d.H p o b = some u; rw [upd_ne (ne_of_none e hp)]; exact e, q⟩, fun b u e => by
    have e : upd d.H p o b = some u := e
    by_cases hb : b = p
    · subst hb; rw [upd_same] at e; cases e; exact hs
    · rw [upd_ne hb] at e; exact h.sm b u e⟩
theorem Rel.stp {G : Gv} {d d' : Wd} {env : Env} {σ : St} (h : Rel G d env σ) (s : Stp d d') (ok : d'.Ok G) (hA : d'.A = d.A) (hH : ∀ b, some b ∈ d.A → d'.H b = d.H b) : Rel G d' env σ where
  ok := ok
  lenA := by rw [hA]; exact h.lenA
  lenS := h.lenS
  sl := fun i x e => by
    obtain ⟨v, h1, h2⟩ := h.sl i x e
    exact ⟨v, h1, s.rp h2⟩
  so := fun i x e => by
    obtain ⟨a, o, h1, h2, h3, h4⟩ := h.so i x e
    exact ⟨a, o, by rw [hA]; exact h1, h2, by rw [hH a (List.mem_iff_getElem?.mpr ⟨i, h1⟩)]; exact h3, s.rpc h4⟩
theorem Rel.up {G : Gv} {d : Wd} {env : Env} {σ : St} (h : Rel G d env σ) {p : Addr} {o : HO} (hp : d.H p = none) (hs : Sm o) : Rel G (d.up p o) env σ :=
  h.stp (Stp.up hp) (h.ok.up hp hs) rfl fun b hb => upd_ne fun e => h.ok.al b (.inr (.inr hb)) (e ▸ hp)
theorem Rel.addO {G : Gv} {d : Wd} {env : Env} {σ : St} (h : Rel G d env σ) {p : Addr} {o : HO} (hp : d.H p = none) (hs : Sm o) : Rel G ((d.up p o).add p) env σ := by
  have hf := h.ok.free hp
  have same : Same d.R ((d.up p o).add p).R := fun b u e => by
    obtain ⟨hd, hb⟩ := msk_some.mp e
    refine msk_some.mpr ⟨fun z => ?_, by show upd d.H p o b = some u; rw [upd_ne (ne_of_none hb hp)]; exact hb⟩
    rcases z with z | (z | z) | z
    · exact hd (.inl z)
    · exact hd (.inr (.inl z))
    · subst z; rw [hb] at hp; cases hp
    · exact hd (.inr (.inr z))
  have hu := h.up (o := o) hp hs
  refine ⟨⟨fun b z y => ?_, hu.ok.dWA, fun b z => ?_, hu.ok.inj, fun b z => ?_, hu.ok.wl, hu.ok.sm⟩, hu.lenA, hu.lenS, fun i x e => ?_, fun i x e => ?_⟩
  · rcases y with y | y
    · exact hu.ok.dWO b z y
    · subst y; exact hf (.inl z)
  · rcases z with z | z
    · exact hu.ok.dOA b z
    · subst z; exact fun y => hf (.inr (.inr y))
  · rcases z with z | (z | z) | z
    · exact hu.ok.al b (.inl z)
    · exact hu.ok.al b (.inr (.inl z))
    · subst z; show upd d.H b o b ≠ none; rw [upd_same]; simp
    · exact hu.ok.al b (.inr (.inr z))
  · obtain ⟨v, h1, h2⟩ := h.sl i x e
    exact ⟨v, h1, h2.mono (fun _ z => z) same⟩
  · obtain ⟨a, u, h1, h2, h3, h4⟩ := h.so i x e
    exact ⟨a, u, h1, h2, by show upd d.H p o a = some u; rw [upd_ne (ne_of_none h3 hp)]; exact h3, h4.mono (fun _ z => z) same⟩
theorem Res.post {G : Gv} {d : Wd} {env : Env} {σ : St} {tv : TV} {v : V} {H' : Hp} (h : Rel G d env σ) (r : Res G d tv v H') : ∃ d', d'.H = H' ∧ Stp d d' ∧ Post G d d' env σ tv v := by
  cases r with
  | same q => exact ⟨d, rfl, Stp.refl d, .v h q⟩
  | @tup p vs xs hp hz q =>
    refine ⟨d.up p (.tup vs), rfl, Stp.up hp, .v (h.up hp hz) (.tup ?_ ((Stp.up hp).rps q))⟩
    exact msk_some.mpr ⟨h.ok.free hp, upd_same⟩
  | @own p o x hp hz q =>
    refine ⟨d.up p o, rfl, Stp.up hp, .own hp (h.ok.free hp) (h.addO hp hz) (show upd d.H p o p = some o from upd_same) (q.mono (fun _ z => z) ?_)⟩
    intro b u e
    obtain ⟨hd, hb⟩ := msk_some.mp e
    refine msk_some.mpr ⟨fun z => ?_, by show upd d.H p o b = some u; rw [upd_ne (ne_of_none hb hp)]; exact hb⟩
    rcases z with z | (z | z) | z
    · exact hd (.inl z)
    · exact hd (.inr (.inl z))
    · subst z; rw [hb] at hp; cases hp
    · exact hd (.inr (.inr z))
end IL

/-! IL2: judgements over pure environments, operands, primitives. -/
namespace IL
open PySem PySem.Spec PyProof.Rows L2

theorem PE.imp {X : Cx} {e : Expr} {t t' : TE} (h : PE X e t) (i : ∀ σ H Q, t' σ H Q → t σ H Q) : PE X e t' := ⟨fun pins s σ H Q I q => h.run pins s σ H Q I (i σ H Q q)⟩
theorem PT.imp {X : Cx} {e : Expr} {t t' : TT} (h : PT X e t) (i : ∀ σ H Q, t' σ H Q → t σ H Q) : PT X e t' := ⟨fun pins s σ H Q I q => h.run pins s σ H Q I (i σ H Q q)⟩
theorem PW.imp {X : Cx} {e : Expr} {t t' : TT} (h : PW X e t) (i : ∀ σ H Q, t' σ H Q → t σ H Q) : PW X e t' := ⟨fun wh pins s σ H Q I q => h.run wh pins s σ H Q I (i σ H Q q)⟩
theorem PS.imp {X : Cx} {e : Stmt} {t t' : TS} (h : PS X e t) (i : ∀ D σ H, t' D σ H → t D σ H) : PS X e t' := ⟨fun pins s σ H D I q => h.run pins s σ H D I (i D σ H q)⟩
theorem PSs.imp {X : Cx} {e : List Stmt} {t t' : TS} (h : PSs X e t) (i : ∀ D σ H, t' D σ H → t D σ H) : PSs X e t' := ⟨fun pins s σ H D I q => h.run pins s σ H D I (i D σ H q)⟩
theorem PA.imp {X : Cx} {e : List Expr} {t t' : TA} (h : PA X e t) (i : ∀ σ H Q, t' σ H Q → t σ H Q) : PA X e t' := ⟨fun pos pins s σ H Q I q => h.run pos pins s σ H Q I (i σ H Q q)⟩
theorem PI.imp {X : Cx} {tg e : Expr} {t t' : TI} (h : PI X tg e t) (i : ∀ σ H Q, t' σ H Q → t σ H Q) : PI X tg e t' := ⟨fun pins s σ H R I q => h.run pins s σ H R I (i σ H R q)⟩
theorem PG.imp {X : Cx} {tg : Expr} {t t' : TG} (h : PG X tg t) (i : ∀ v σ H Q, t' v σ H Q → t v σ H Q) : PG X tg t' := ⟨fun pins s σ H v u Q I r q => h.run pins s σ H v u Q I r (i v σ H Q q)⟩
theorem OpR.imp {X : Cx} {f : Value → Value → Sem Value} {r r' : R2} (h : OpR X f r) (i : ∀ x y H Q, r' x y H Q → r x y H Q) : OpR X f r' := fun pins s σ H x y v u Q I rx ry q => h pins s σ H x y v u Q I rx ry (i x y H Q q)

abbrev OW := Env → (TV → Env → Prop) → Prop
abbrev TW := Env → (Bool → Env → Prop) → Prop
def tSO (G : Gv) (m : OW) : TE := fun σ H Q => ∃ (d : Wd) (env : Env) (Qp : TV → Env → Prop), d.H = H ∧ Rel G d env σ ∧ m env Qp ∧
  ∀ tv env' v d', Qp tv env' → Stp d d' → Post G d d' env' σ tv v → Q v d'.H
def tST (G : Gv) (m : TW) : TT := fun σ H Q => ∃ (d : Wd) (env : Env) (Qp : Bool → Env → Prop), d.H = H ∧ Rel G d env σ ∧ m env Qp ∧
  ∀ b env' d', Qp b env' → Stp d d' → Rel G d' env' σ → Q b d'.H
abbrev SO (X : Cx) (G : Gv) (e : Expr) (m : OW) : Prop := PE X e (tSO G m)
abbrev SV (X : Cx) (G : Gv) (e : Expr) (m : TW) : Prop := PT X e (tST G m)

/-- the context of a def of level k + 1 -/
structure CxOk (X : Cx) (G : Gv) (k : Nat) : Prop where
  K : X.K = G.K
  mg : X.mg = G.mg
  calm : X.calm = true
  nd : X.N.Nodup
  room : Room k X.A
  xe : X.xe = fun _ _ => False
theorem CxOk.hu1 {X : Cx} {G : Gv} {k : Nat} (c : CxOk X G k) : X.A.units + 1 < cLine := hu_of c.room
theorem CxOk.hu64 {X : Cx} {G : Gv} {k : Nat} (c : CxOk X G k) : X.A.units + 64 < cLine := c.room.units
theorem CxOk.hu65 {X : Cx} {G : Gv} {k : Nat} (c : CxOk X G k) : X.A.units + 65 < cLine := by have := c.room.un; omega

/-! ### operands -/
abbrev Opr := PV ⊕ Nat
inductive Opd where
  | sl (i : Nat)
  | ex (m : OW)
def Opd.ev : Opd → Env → (Opr → Env → Prop) → Prop
  | .sl i, env, K => match env[i]? with
    | some (some _) => K (.inr i) env
    | _ => False
  | .ex m, env, K => m env fun tv e => K (.inl tv.pv) e
def Opr.rd (env : Env) : Opr → Option PV
  | .inl x => some x
  | .inr i => match env[i]? with
    | some (some tv) => some tv.pv
    | _ => none
def rdAll (env : Env) : List Opr → Option (List PV)
  | [] => some []
  | r :: rs => match Opr.rd env r, rdAll env rs with
    | some x, some xs => some (x :: xs)
    | _, _ => none
def evOps : List Opd → Env → (List Opr → Env → Prop) → Prop
  | [], env, K => K [] env
  | o :: os, env, K => o.ev env fun r e => evOps os e fun rs e2 => K (r :: rs) e2
def withOps (ops : List Opd) (env : Env) (K : List PV → Env → Prop) : Prop := evOps ops env fun rs e => match rdAll e rs with
  | some xs => K xs e
  | none => False
def Opd.te (G : Gv) : Opd → TE
  | .sl i => tVar i
  | .ex m => tSO G m
def opsTA (G : Gv) : List Opd → TA
  | [] => tNil
  | o :: os => tCons (o.te G) (opsTA G os)
def OprR (G : Gv) (d : Wd) (σ : St) : Opr → V → Prop
  | .inl x, v => Rp G d.W d.R v x
  | .inr i, v => σ[i]? = some (some v)
/-- a value that may be read here and now (a slot's owned object, too) -/
def RpB (G : Gv) (d : Wd) (v : V) : PV → Prop
  | .lst xs => ∃ a vs, v = .ref a ∧ d.H a = some (.lst vs) ∧ Rps G d.W d.R vs xs
  | .dK ks ys => ∃ a kvs, v = .ref a ∧ RdK d.H a kvs ∧ ks = kvs.map (·.1) ∧ Rps G d.W d.R (kvs.map (·.2)) ys
  | .dT ks ys => ∃ a kvs, v = .ref a ∧ d.H a = some (.dT kvs) ∧ ks = kvs.map (·.1) ∧ Rps G d.W d.R (kvs.map (·.2)) ys
  | x => Rp G d.W d.R v x
abbrev RpBs (G : Gv) (d : Wd) : List V → List PV → Prop := Paired (RpB G d)

section
variable {G : Gv} {d d' : Wd} {env : Env} {σ : St} {v : V} {x : PV}
theorem Rp.b (h : Rp G d.W d.R v x) : RpB G d v x := by
  cases h with
  | @lst a vs xs e r => exact ⟨_, _, rfl, R_sub _ _ e, r⟩
  | dK e r => exact ⟨_, _, rfl, RdK.same R_sub e, rfl, r⟩
  | dT e r => exact ⟨_, _, rfl, R_sub _ _ e, rfl, r⟩
  | non => exact .non
  | bl b => exact .bl b
  | int i => exact .int i
  | str x => exact .str x
  | ty n => exact .ty n
  | fn e => exact .fn e
  | tup e r => exact .tup e r
  | well e => exact .well e
  | scr e => exact .scr e
theorem OprR.stp (s : Stp d d') : ∀ {r : Opr}, OprR G d σ r v → OprR G d' σ r v
  | .inl _, h => s.rp h
  | .inr _, h => h
theorem rd_ok (rel : Rel G d env σ) : ∀ {r : Opr}, OprR G d σ r v → r.rd env = some x → RpB G d v x
  | .inl y, h, e => by
    cases e
    exact Rp.b h
  | .inr i, h, e => by
    have e : (match env[i]? with | some (some tv) => some tv.pv | _ => none) = some x := e
    split at e
    · rename_i tv hi
      cases e
      cases tv with
      | v y =>
        obtain ⟨u, h1, h2⟩ := rel.sl i y hi
        have h : σ[i]? = some (some v) := h
        rw [h1] at h
        cases h
        exact Rp.b h2
      | own y =>
        obtain ⟨a, o, _, h1, h2, h3⟩ := rel.so i y hi
        have h : σ[i]? = some (some v) := h
        rw [h1] at h
        cases h
        cases h3 with
        | lst r => exact ⟨a, _, rfl, h2, r⟩
        | dK r => exact ⟨a, _, rfl, .inl h2, rfl, r⟩
        | dT r => exact ⟨a, _, rfl, h2, rfl, r⟩
    · cases e
theorem rdAll_ok (rel : Rel G d env σ) : ∀ {rs : List Opr} {vs : List V} {xs : List PV}, Paired (OprR G d σ) rs vs → rdAll env rs = some xs → RpBs G d vs xs
  | _, _, _, .nil, e => by
    cases e
    exact .nil
  | r :: rs, v :: vs, xs, .cons h t, e => by
    have e : (match Opr.rd env r, rdAll env rs with | some x, some xs => some (x :: xs) | _, _ => none) = some xs := e
    cases e1 : Opr.rd env r with
    | none => rw [e1] at e; cases e
    | some x =>
      cases e2 : rdAll env rs with
      | none => rw [e1, e2] at e; cases e
      | some xs' =>
        rw [e1, e2] at e
        cases e
        exact .cons (rd_ok rel h e1) (rdAll_ok rel t e2)
end
theorem tVar_run {σ : St} {H : Hp} {i : Nat} {v : V} {Q : VK} (h : σ[i]? = some (some v)) (q : Q v H) : tVar i σ H Q := ⟨v, h, q⟩
section
variable {G : Gv} {d : Wd} {env : Env} {σ : St}
theorem Rel.at (rel : Rel G d env σ) {i : Nat} {tv : TV} (e : env[i]? = some (some tv)) : ∃ v, σ[i]? = some (some v) := by
  cases tv with
  | v x => obtain ⟨v, h, _⟩ := rel.sl i x e; exact ⟨v, h⟩
  | own x => obtain ⟨a, o, _, h, _⟩ := rel.so i x e; exact ⟨_, h⟩
theorem opd_run (rel : Rel G d env σ) {o : Opd} {K : Opr → Env → Prop} {Q : VK} (h : o.ev env K) (q : ∀ r e v d', K r e → Stp d d' → Rel G d' e σ → OprR G d' σ r v → Q v d'.H) : o.te G σ d.H Q := by
  cases o with
  | sl i =>
    have h : (match env[i]? with | some (some _) => K (.inr i) env | _ => False) := h
    split at h
    · rename_i tv hi
      obtain ⟨v, hv⟩ := rel.at hi
      exact tVar_run hv (q _ _ v d h (Stp.refl d) rel hv)
    · cases h
  | ex m => exact ⟨d, env, _, rfl, rel, h, fun tv e v d' k s p => q _ _ v d' k s p.frz.1 p.frz.2⟩
theorem ops_run : ∀ {ops : List Opd} {d : Wd} {env : Env} {K : List Opr → Env → Prop} {Q : List V → Hp → Prop}, Rel G d env σ → evOps ops env K →
    (∀ rs e vs d', K rs e → Stp d d' → Rel G d' e σ → Paired (OprR G d' σ) rs vs → Q vs d'.H) → opsTA G ops σ d.H Q
  | [], d, env, K, Q, rel, h, q => q [] env [] d h (Stp.refl d) rel .nil
  | o :: os, d, env, K, Q, rel, h, q => opd_run rel (o := o) h fun r e v d1 k1 s1 rel1 r1 => ops_run (ops := os) rel1 k1 fun rs e2 vs d2 k2 s2 rel2 r2 => q _ _ _ d2 k2 (s1.trans s2) rel2 (.cons (OprR.stp s2 r1) r2)
theorem withOps_run {ops : List Opd} {K : List PV → Env → Prop} {Q : List V → Hp → Prop} (rel : Rel G d env σ) (h : withOps ops env K)
    (q : ∀ xs e vs d', K xs e → Stp d d' → Rel G d' e σ → RpBs G d' vs xs → Q vs d'.H) : opsTA G ops σ d.H Q :=
  ops_run rel h fun rs e vs d' k s rel' p => by
    split at k
    · rename_i xs hx
      exact q xs e vs d' k s rel' (rdAll_ok rel' p hx)
    · cases k
end

/-! ### primitives: by values -/
abbrev PrW := List PV → (TV → Prop) → Prop
def oPrim (P : PrW) (ops : List Opd) : OW := fun env Q => withOps ops env fun xs e => P xs fun tv => Q tv e
def rPrim (G : Gv) (P : PrW) : List V → Hp → VK → Prop := fun vs H Q => ∃ (d : Wd) (xs : List PV) (Qp : TV → Prop), d.H = H ∧ d.Ok G ∧ RpBs G d vs xs ∧ P xs Qp ∧ ∀ tv v H', Qp tv → Res G d tv v H' → Q v H'
def rPrim2 (G : Gv) (P : PrW) : R2 := fun x y H Q => rPrim G P [x, y] H Q
section
variable {G : Gv} {d : Wd} {env : Env} {σ : St}
theorem prim_run {P : PrW} {ops : List Opd} {Qp : TV → Env → Prop} {Q : VK} (rel : Rel G d env σ) (h : oPrim P ops env Qp) (q : ∀ tv env' v d', Qp tv env' → Stp d d' → Post G d d' env' σ tv v → Q v d'.H) :
    opsTA G ops σ d.H fun vs H1 => rPrim G P vs H1 Q :=
  withOps_run rel h fun xs e vs d1 k s rel1 p => ⟨d1, xs, _, rfl, rel1.ok, p, k, fun tv v H' k2 r => by
    obtain ⟨d2, e2, s2, po⟩ := r.post rel1
    subst e2
    exact q tv e v d2 k2 (s.trans s2) (po.from s)⟩
end
section
variable {X : Cx} {G : Gv}
theorem so_bin {op : Operator} {P : PrW} {a b : Expr} {oa ob : Opd} {pos : Pos} (ho : OpR X (binaryOp op) (rPrim2 G P)) (ha : PE X a (oa.te G)) (hb : PE X b (ob.te G)) : SO X G (.BinOp a op b pos) (oPrim P [oa, ob]) :=
  PE.imp (pe_op ho ha hb) fun σ H Q ⟨d, env, Qp, hH, rel, h, q⟩ => by
    subst hH
    exact prim_run rel h q
theorem so_cmp {op : CmpOp} {P : PrW} {a b : Expr} {oa ob : Opd} {pos : Pos} (ho : OpR X (compareOp op) (rPrim2 G P)) (ha : PE X a (oa.te G)) (hb : PE X b (ob.te G)) (hm : behindInMarks op b = false) : SO X G (.Compare a [op] [b] pos) (oPrim P [oa, ob]) :=
  PE.imp (pe_cmpR ho ha hb hm) fun σ H Q ⟨d, env, Qp, hH, rel, h, q⟩ => by
    subst hH
    exact prim_run rel h q
theorem so_un {op : UnaryOp} {P : PrW} {a : Expr} {oa : Opd} {pos : Pos} (ho : UnR X (unaryOp op) fun x H Q => rPrim G P [x] H Q) (ha : PE X a (oa.te G)) : SO X G (.UnaryOp op a pos) (oPrim P [oa]) :=
  PE.imp (pe_un ho ha) fun σ H Q ⟨d, env, Qp, hH, rel, h, q⟩ => by
    subst hH
    exact prim_run rel h q
theorem so_ix {P : PrW} {a b : Expr} {oa ob : Opd} {pos : Pos} (hr : IxR X fun x y H Q => rPrim G P [x, y] H Q) (hs : PlainIx b) (ha : PE X a (oa.te G)) (hb : PE X b (ob.te G)) : SO X G (.Subscript a b pos) (oPrim P [oa, ob]) :=
  PE.imp (pe_ix hr ha hb hs) fun σ H Q ⟨d, env, Qp, hH, rel, h, q⟩ => by
    subst hH
    exact prim_run rel h q
end
/-! ### names -/
def oVar (i : Nat) : OW := fun env Q => match env[i]? with
  | some (some (.v x)) => Q (.v x) env
  | some (some (.own x)) => Q (.v x) (env.set i (some (.v x)))
  | _ => False
def oC (x : PV) : OW := fun env Q => Q (.v x) env
section
variable {X : Cx} {G : Gv}
theorem so_var {i : Nat} {e : Expr} (h : PE X e (tVar i)) : SO X G e (oVar i) := PE.imp h fun σ H Q ⟨d, env, Qp, hH, rel, h, q⟩ => by
  subst hH
  unfold oVar at h
  split at h
  · rename_i x hi
    obtain ⟨v, h1, h2⟩ := rel.sl i x hi
    exact tVar_run h1 (q _ _ v d h (Stp.refl d) (.v rel h2))
  · rename_i x hi
    obtain ⟨a, h1, h2, h3⟩ := rel.freeze hi
    exact tVar_run h1 (q _ _ _ (d.drop i) h (Stp.drop d i) (.v h3 h2))
  · cases h
theorem so_c {v : V} {x : PV} {e : Expr} (h : PE X e (tC v)) (r : ∀ d : Wd, d.Ok G → Rp G d.W d.R v x) : SO X G e (oC x) := PE.imp h fun σ H Q ⟨d, env, Qp, hH, rel, h, q⟩ => by
  subst hH
  exact q _ _ v d h (Stp.refl d) (.v rel (r d rel.ok))
end
/-! ### displays -/
/-- operands that are values (no slot is lent) -/
def wArgs : List OW → Env → (List PV → Env → Prop) → Prop
  | [], env, K => K [] env
  | m :: ms, env, K => m env fun tv e => wArgs ms e fun xs e2 => K (tv.pv :: xs) e2
def argsTA (G : Gv) : List OW → TA
  | [] => tNil
  | m :: ms => tCons (tSO G m) (argsTA G ms)
section
variable {G : Gv} {σ : St}
theorem args_run : ∀ {ms : List OW} {d : Wd} {env : Env} {K : List PV → Env → Prop} {Q : List V → Hp → Prop}, Rel G d env σ → wArgs ms env K →
    (∀ xs e vs d', K xs e → Stp d d' → Rel G d' e σ → Rps G d'.W d'.R vs xs → xs.length = ms.length → Q vs d'.H) → argsTA G ms σ d.H Q
  | [], d, env, K, Q, rel, h, q => q [] env [] d h (Stp.refl d) rel .nil rfl
  | m :: ms, d, env, K, Q, rel, h, q => ⟨d, env, _, rfl, rel, h, fun tv e v d1 k1 s1 p1 => args_run (ms := ms) p1.frz.1 k1 fun xs e2 vs d2 k2 s2 rel2 r2 l2 => q _ _ _ d2 k2 (s1.trans s2) rel2 (.cons (s2.rp p1.frz.2) r2) (congrArg Nat.succ l2)⟩
end
def oTup (ms : List OW) : OW := fun env Q => wArgs ms env fun xs e => Q (.v (.tup xs)) e
def oLst (ms : List OW) : OW := fun env Q => wArgs ms env fun xs e => Q (.own (.lst xs)) e
section
variable {X : Cx} {G : Gv}
theorem so_tup {es : List Expr} {ms : List OW} {x1 : Nat} {pos : Pos} (hz : ms.length ≤ 1000) (h : PA X es (argsTA G ms)) : SO X G (.Tuple es x1 pos) (oTup ms) :=
  PE.imp (pe_tup h) fun σ H Q ⟨d, env, Qp, hH, rel, h, q⟩ => by
    subst hH
    refine args_run rel h fun xs e vs d' k s rel' r hl => ?_
    have hv : vs.length ≤ sizeLine := by rw [r.length, hl]; exact Nat.le_of_lt (small1000 hz)
    refine ⟨hv, fun p hp => ?_⟩
    · obtain ⟨d2, e2, s2, po⟩ := (Res.tup hp hv r).post rel'
      have := q _ _ _ d2 k (s.trans s2) (po.from s)
      rw [e2] at this
      exact this
theorem so_lst {es : List Expr} {ms : List OW} {pos : Pos} (hz : ms.length ≤ 1000) (h : PA X es (argsTA G ms)) : SO X G (.List es pos) (oLst ms) :=
  PE.imp (pe_lst h) fun σ H Q ⟨d, env, Qp, hH, rel, h, q⟩ => by
    subst hH
    refine args_run rel h fun xs e vs d' k s rel' r hl => ?_
    have hv : vs.length ≤ sizeLine := by rw [r.length, hl]; exact Nat.le_of_lt (small1000 hz)
    refine ⟨hv, fun p hp => ?_⟩
    · obtain ⟨d2, e2, s2, po⟩ := (Res.own (o := .lst vs) hp hv (.lst r)).post rel'
      have := q _ _ _ d2 k (s.trans s2) (po.from s)
      rw [e2] at this
      exact this
end
end IL

/-! IL3: tests, and/or, if else, chains, calls of defs, what is walked, comprehensions. -/
namespace IL
open PySem PySem.Spec PyProof.Rows L2

/-! ### truth -/
def truP : PV → (Bool → Prop) → Prop
  | .non, Q => Q false
  | .bl b, Q => Q b
  | .int i, Q => Q (i != 0)
  | .str x, Q => x.length ≤ sizeLine ∧ Q (x.length != 0)
  | .tup xs, Q => Q (!xs.isEmpty)
  | .lst xs, Q => Q (!xs.isEmpty)
  | _, _ => False
theorem isEmpty_len {α β : Type} {xs : List α} {ys : List β} (h : xs.length = ys.length) : (!xs.isEmpty) = !ys.isEmpty := by
  cases xs <;> cases ys <;> simp_all
theorem truP_ok {G : Gv} {d : Wd} {v : V} {x : PV} {Q : Bool → Prop} (h : RpB G d v x) (q : truP x Q) : ∃ k, TruV G.K v d.H k ∧ Q k := by
  cases x with
  | non => cases (show Rp G d.W d.R v .non from h); exact ⟨false, rfl, q⟩
  | bl b => cases (show Rp G d.W d.R v (.bl b) from h); exact ⟨b, rfl, q⟩
  | int i => cases (show Rp G d.W d.R v (.int i) from h); exact ⟨i != 0, rfl, q⟩
  | str z =>
    cases (show Rp G d.W d.R v (.str z) from h)
    refine ⟨z.length != 0, ⟨q.1, ?_⟩, q.2⟩
    cases z.length <;> rfl
  | tup xs =>
    cases (show Rp G d.W d.R v (.tup xs) from h) with
    | tup e r => exact ⟨!xs.isEmpty, .inr (.inl ⟨_, SqT.of (R_sub _ _ e), (isEmpty_len r.length).symm⟩), q⟩
  | lst xs =>
    obtain ⟨a, vs, rfl, e, r⟩ := h
    exact ⟨!xs.isEmpty, .inl ⟨_, SqL.of e, (isEmpty_len r.length).symm⟩, q⟩
  | _ => exact q.elim

def tTru (o : Opd) : TW := fun env Q => o.ev env fun r e => match r.rd e with
  | some x => truP x fun b => Q b e
  | none => False
/-- a bool's own -/
def tOf (m : OW) : TW := fun env Q => m env fun tv e => match tv.pv with
  | .bl b => Q b e
  | _ => False
def tNotW (t : TW) : TW := fun env Q => t env fun b e => Q (!b) e
def tAndW (t u : TW) : TW := fun env Q => t env fun b e => if b = true then u e Q else Q false e
def tOrW (t u : TW) : TW := fun env Q => t env fun b e => if b = true then Q true e else u e Q
def oOfT (t : TW) : OW := fun env Q => t env fun b e => Q (.v (.bl b)) e
def oAnd (m u : OW) : OW := fun env Q => m env fun tv e => truP tv.pv fun b => if b = true then u e Q else Q (.v tv.pv) e
def oOr (m u : OW) : OW := fun env Q => m env fun tv e => truP tv.pv fun b => if b = true then Q (.v tv.pv) e else u e Q
def oIf (t : TW) (m u : OW) : OW := fun env Q => t env fun b e => if b = true then m e Q else u e Q
section
variable {X : Cx} {G : Gv} {k : Nat}
theorem sv_tru {o : Opd} {a : Expr} (cx : CxOk X G k) (ha : PE X a (o.te G)) (he : ∀ whole, isTrue a X.env whole = (do let v ← whole; standAt a.pos; holding [v] (truthy v))) : SV X G a (tTru o) :=
  PT.imp (pt_truth ha he) fun σ H Q ⟨d, env, Qp, hH, rel, h, q⟩ => by
    subst hH
    refine opd_run rel h fun r e v d' k s rel' p => ?_
    split at k
    · rename_i x hx
      obtain ⟨b, h1, h2⟩ := truP_ok (rd_ok rel' p hx) k
      exact ⟨b, by rw [cx.K]; exact h1, q b e d' h2 s rel'⟩
    · cases k
theorem sv_cmp {op : CmpOp} {P : PrW} {a b : Expr} {oa ob : Opd} {pos : Pos} (ho : OpR X (compareOp op) (rPrim2 G P)) (ha : PE X a (oa.te G)) (hb : PE X b (ob.te G)) (hm : behindInMarks op b = false) : SV X G (.Compare a [op] [b] pos) (tOf (oPrim P [oa, ob])) :=
  PT.imp (pt_cmpR ho ha hb hm) fun σ H Q ⟨d, env, Qp, hH, rel, h, q⟩ => by
    subst hH
    have := prim_run (G := G) (P := P) (ops := [oa, ob]) (σ := σ) (Q := fun x H' => ∃ k, x = V.bl k ∧ Q k H') rel h fun tv e v d' k s p => by
      obtain ⟨rel', r⟩ := p.frz
      cases hx : tv.pv with
      | bl b =>
        rw [hx] at k r
        cases r
        exact ⟨b, rfl, q b e d' k s rel'⟩
      | _ => rw [hx] at k; exact k.elim
    exact this
theorem sv_not {a : Expr} {t : TW} {pos : Pos} (ha : SV X G a t) : SV X G (.UnaryOp .Not a pos) (tNotW t) :=
  PT.imp (pt_not ha) fun σ H Q ⟨d, env, Qp, hH, rel, h, q⟩ => ⟨d, env, _, hH, rel, h, fun b e d' k s rel' => q _ e d' k s rel'⟩
abbrev SW' (X : Cx) (G : Gv) (e : Expr) (m : TW) : Prop := PW X e (tST G m)
theorem sw_and1 {a : Expr} {t : TW} {pos : Pos} (ha : SV X G a t) : SW' X G (.BoolOp .And [a] pos) t := pw_and1 ha
theorem sw_or1 {a : Expr} {t : TW} {pos : Pos} (ha : SV X G a t) : SW' X G (.BoolOp .Or [a] pos) t := pw_or1 ha
theorem sw_and {a b : Expr} {rest : List Expr} {t u : TW} {pos : Pos} (ha : SV X G a t) (hb : SW' X G (.BoolOp .And (b :: rest) pos) u) : SW' X G (.BoolOp .And (a :: b :: rest) pos) (tAndW t u) :=
  PW.imp (pw_and ha hb) fun σ H Q ⟨d, env, Qp, hH, rel, h, q⟩ => ⟨d, env, _, hH, rel, h, fun b e d' k s rel' => by
    cases b with
    | true => exact ⟨d', e, _, rfl, rel', k, fun b2 e2 d2 k2 s2 r2 => q b2 e2 d2 k2 (s.trans s2) r2⟩
    | false => exact q _ e d' k s rel'⟩
theorem sw_or {a b : Expr} {rest : List Expr} {t u : TW} {pos : Pos} (ha : SV X G a t) (hb : SW' X G (.BoolOp .Or (b :: rest) pos) u) : SW' X G (.BoolOp .Or (a :: b :: rest) pos) (tOrW t u) :=
  PW.imp (pw_or ha hb) fun σ H Q ⟨d, env, Qp, hH, rel, h, q⟩ => ⟨d, env, _, hH, rel, h, fun b e d' k s rel' => by
    cases b with
    | false => exact ⟨d', e, _, rfl, rel', k, fun b2 e2 d2 k2 s2 r2 => q b2 e2 d2 k2 (s.trans s2) r2⟩
    | true => exact q _ e d' k s rel'⟩
theorem so_one {a : Expr} {m : OW} {op} {pos : Pos} (ha : SO X G a m) : SO X G (.BoolOp op [a] pos) m := pe_one ha
theorem so_and {a b : Expr} {rest : List Expr} {m u : OW} {pos : Pos} (cx : CxOk X G k) (ha : SO X G a m) (hb : SO X G (.BoolOp .And (b :: rest) pos) u) : SO X G (.BoolOp .And (a :: b :: rest) pos) (oAnd m u) :=
  PE.imp (pe_andT ha hb) fun σ H Q ⟨d, env, Qp, hH, rel, h, q⟩ => ⟨d, env, _, hH, rel, h, fun tv e v d' k s p => by
    obtain ⟨rel', r⟩ := p.frz
    obtain ⟨b, h1, h2⟩ := truP_ok (Rp.b r) k
    refine ⟨b, by rw [cx.K]; exact h1, ?_⟩
    cases b with
    | true => exact ⟨d', e, _, rfl, rel', h2, fun b2 e2 v2 d2 k2 s2 p2 => q b2 e2 v2 d2 k2 (s.trans s2) (p2.from s)⟩
    | false => exact q _ e v d' h2 s (.v rel' r)⟩
theorem so_or {a b : Expr} {rest : List Expr} {m u : OW} {pos : Pos} (cx : CxOk X G k) (ha : SO X G a m) (hb : SO X G (.BoolOp .Or (b :: rest) pos) u) : SO X G (.BoolOp .Or (a :: b :: rest) pos) (oOr m u) :=
  PE.imp (pe_orT ha hb) fun σ H Q ⟨d, env, Qp, hH, rel, h, q⟩ => ⟨d, env, _, hH, rel, h, fun tv e v d' k s p => by
    obtain ⟨rel', r⟩ := p.frz
    obtain ⟨b, h1, h2⟩ := truP_ok (Rp.b r) k
    refine ⟨b, by rw [cx.K]; exact h1, ?_⟩
    cases b with
    | false => exact ⟨d', e, _, rfl, rel', h2, fun b2 e2 v2 d2 k2 s2 p2 => q b2 e2 v2 d2 k2 (s.trans s2) (p2.from s)⟩
    | true => exact q _ e v d' h2 s (.v rel' r)⟩
theorem so_notT {a : Expr} {m : OW} {pos : Pos} (cx : CxOk X G k) (ha : SO X G a m) : SO X G (.UnaryOp .Not a pos) (fun env Q => m env fun tv e => truP tv.pv fun b => Q (.v (.bl (!b))) e) :=
  PE.imp (pe_notT ha) fun σ H Q ⟨d, env, Qp, hH, rel, h, q⟩ => ⟨d, env, _, hH, rel, h, fun tv e v d' k s p => by
    obtain ⟨rel', r⟩ := p.frz
    obtain ⟨b, h1, h2⟩ := truP_ok (Rp.b r) k
    exact ⟨b, by rw [cx.K]; exact h1, q _ e _ d' h2 s (.v rel' (.bl _))⟩⟩
theorem so_if {c a b : Expr} {t : TW} {m u : OW} {pos : Pos} (hc : SV X G c t) (ha : SO X G a m) (hb : SO X G b u) : SO X G (.IfExp c a b pos) (oIf t m u) :=
  PE.imp (pe_ifExp hc ha hb) fun σ H Q ⟨d, env, Qp, hH, rel, h, q⟩ => ⟨d, env, _, hH, rel, h, fun b e d' k s rel' => by
    cases b with
    | true => exact ⟨d', e, _, rfl, rel', k, fun b2 e2 v2 d2 k2 s2 p2 => q b2 e2 v2 d2 k2 (s.trans s2) (p2.from s)⟩
    | false => exact ⟨d', e, _, rfl, rel', k, fun b2 e2 v2 d2 k2 s2 p2 => q b2 e2 v2 d2 k2 (s.trans s2) (p2.from s)⟩⟩
end
/-! ### chains a op b op' c -/
def oChain (P P' : PrW) (oa ob oc : Opd) : OW := fun env Q => oa.ev env fun ra e1 => ob.ev e1 fun rb e2 => match ra.rd e2, rb.rd e2 with
  | some x, some y => P [x, y] fun tv => match tv.pv with
    | .bl k => if k = true then oc.ev e2 fun rc e3 => match rb.rd e3, rc.rd e3 with
        | some y', some z => P' [y', z] fun tv2 => Q tv2 e3
        | _, _ => False
      else Q (.v (.bl false)) e2
    | _ => False
  | _, _ => False
section
variable {X : Cx} {G : Gv}
theorem chain_run {P P' : PrW} {oa ob oc : Opd} {σ : St} {d : Wd} {env : Env} {Qp : TV → Env → Prop} {Q : VK} (rel : Rel G d env σ) (h : oChain P P' oa ob oc env Qp) (q : ∀ tv env' v d', Qp tv env' → Stp d d' → Post G d d' env' σ tv v → Q v d'.H) :
    tChain (rPrim2 G P) (rPrim2 G P') (oa.te G) (ob.te G) (oc.te G) σ d.H Q := by
  refine opd_run rel h fun ra e1 va d1 k1 s1 rel1 p1 => ?_
  refine opd_run rel1 k1 fun rb e2 vb d2 k2 s2 rel2 p2 => ?_
  have p1' := p1.stp s2
  cases hx : ra.rd e2 with
  | none => rw [hx] at k2; exact k2.elim
  | some x =>
    cases hy : rb.rd e2 with
    | none => rw [hx, hy] at k2; exact k2.elim
    | some y =>
      rw [hx, hy] at k2
      refine ⟨d2, [x, y], _, rfl, rel2.ok, .cons (rd_ok rel2 p1' hx) (.cons (rd_ok rel2 p2 hy) .nil), k2, fun tv v H' k3 r => ?_⟩
      obtain ⟨d3, e3, s3, po⟩ := r.post rel2
      subst e3
      obtain ⟨rel3, rr⟩ := po.frz
      cases hz : tv.pv with
      | bl k =>
        rw [hz] at k3 rr
        cases rr
        refine ⟨k, rfl, ?_⟩
        cases k with
        | false => exact q _ _ _ d3 k3 (s1.trans (s2.trans s3)) (.v rel3 (.bl _))
        | true =>
          refine opd_run rel3 k3 fun rc e4 vc d4 k4 s4 rel4 p4 => ?_
          cases hy' : rb.rd e4 with
          | none => rw [hy'] at k4; exact k4.elim
          | some y' =>
            cases hz' : rc.rd e4 with
            | none => rw [hy', hz'] at k4; exact k4.elim
            | some z' =>
              rw [hy', hz'] at k4
              refine ⟨d4, [y', z'], _, rfl, rel4.ok, .cons (rd_ok rel4 ((p2.stp s3).stp s4) hy') (.cons (rd_ok rel4 p4 hz') .nil), k4, fun tv2 v2 H2 k5 r5 => ?_⟩
              obtain ⟨d5, e5, s5, po5⟩ := r5.post rel4
              subst e5
              have s15 := s1.trans (s2.trans (s3.trans s4))
              exact q tv2 _ v2 d5 k5 (s15.trans s5) (po5.from s15)
      | _ => rw [hz] at k3; exact k3.elim
theorem so_chain {op op' : CmpOp} {P P' : PrW} {a b c : Expr} {oa ob oc : Opd} {pos : Pos} (ho : OpR X (compareOp op) (rPrim2 G P)) (ho' : OpR X (compareOp op') (rPrim2 G P')) (ha : PE X a (oa.te G)) (hb : PE X b (ob.te G)) (hc : PE X c (oc.te G)) (hm : lastMarks [op, op'] [b, c] = false) :
    SO X G (.Compare a [op, op'] [b, c] pos) (oChain P P' oa ob oc) :=
  PE.imp (pe_chain ho ho' ha hb hc hm) fun σ H Q ⟨d, env, Qp, hH, rel, h, q⟩ => by
    subst hH
    exact chain_run rel h q
theorem sv_chain {op op' : CmpOp} {P P' : PrW} {a b c : Expr} {oa ob oc : Opd} {pos : Pos} (ho : OpR X (compareOp op) (rPrim2 G P)) (ho' : OpR X (compareOp op') (rPrim2 G P')) (ha : PE X a (oa.te G)) (hb : PE X b (ob.te G)) (hc : PE X c (oc.te G)) (hm : lastMarks [op, op'] [b, c] = false) :
    SV X G (.Compare a [op, op'] [b, c] pos) (tOf (oChain P P' oa ob oc)) :=
  PT.imp (pt_chain ho ho' ha hb hc hm) fun σ H Q ⟨d, env, Qp, hH, rel, h, q⟩ => by
    subst hH
    refine chain_run rel h fun tv e v d' k s p => ?_
    obtain ⟨rel', r⟩ := p.frz
    cases hx : tv.pv with
    | bl b =>
      rw [hx] at k r
      cases r
      exact ⟨b, rfl, q b e d' k s rel'⟩
    | _ => rw [hx] at k; exact k.elim
end
/-! ### defs and their calls -/
/-- what a def does, by pure values -/
abbrev FW := List PV → (TV → Prop) → Prop
inductive RT (G : Gv) (d d' : Wd) : TV → V → Prop
  | v {x : PV} {v : V} : Rp G d'.W d'.R v x → RT G d d' (.v x) v
  | own {x : PV} {p : Addr} {o : HO} : d.H p = none → ¬ d'.D p → d'.H p = some o → RpC G d'.W (d'.add p).R o x → RT G d d' (.own x) (.ref p)
def spOf (G : Gv) (n : Nat) (F : FW) : Sp := fun vs H Q _ => ∃ (d : Wd) (xs : List PV) (Qp : TV → Prop), d.A = [] ∧ d.H = H ∧ d.Ok G ∧ Rps G d.W d.R vs xs ∧ xs.length = n ∧ F xs Qp ∧
  ∀ tv v d', Qp tv → Stp d d' → d'.A = [] → d'.Ok G → RT G d d' tv v → Q v d'.H
def oCall (n : Nat) (F : FW) (ms : List OW) : OW := fun env Q => wArgs ms env fun xs e => xs.length = n ∧ F xs fun tv => Q tv e
/-- the callee's world -/
def Wd.in_ (d : Wd) : Wd := { d with O := fun b => d.O b ∨ some b ∈ d.A, A := [] }
theorem Wd.in_D {d : Wd} {b : Addr} : d.in_.D b ↔ d.D b := by
  unfold Wd.D Wd.in_
  simp only [List.not_mem_nil, or_false]
theorem msk_congr {D D' : Addr → Prop} {H : Hp} (h : ∀ b, D b ↔ D' b) : msk D H = msk D' H := by
  have : D = D' := funext fun b => propext (h b)
  rw [this]
theorem Wd.in_R {d : Wd} : d.in_.R = d.R := msk_congr fun b => Wd.in_D
theorem Wd.Ok.in_ {G : Gv} {d : Wd} (h : d.Ok G) : d.in_.Ok G :=
  ⟨fun b z y => y.elim (h.dWO b z) (h.dWA b z), fun b _ y => List.not_mem_nil y, fun b _ y => List.not_mem_nil y, (fun i j b e => by cases i <;> cases e), fun b z => h.al b (Wd.in_D.mp z), h.wl, h.sm⟩
/-- back in the caller -/
def Wd.back (d d' : Wd) : Wd := { W := d'.W, O := d.O, A := d.A, H := d'.H }
section
variable {G : Gv} {d d' : Wd} {env : Env} {σ : St}
theorem back_D (s : Stp d.in_ d') (hA : d'.A = []) {b : Addr} : (d.back d').D b ↔ d'.D b := by
  unfold Wd.D Wd.back
  rw [s.O, hA]
  simp only [List.not_mem_nil, or_false]
  exact Iff.rfl
theorem back_stp (s : Stp d.in_ d') : Stp d (d.back d') where
  O := rfl
  keep := fun b o h hw _ => s.keep b o h hw (by simp [Wd.in_])
  al := s.al
  w1 := s.w1
  w2 := s.w2
  a2 := fun b h => .inl h
theorem back_ok (ok : d.Ok G) (s : Stp d.in_ d') (ok' : d'.Ok G) (hA : d'.A = []) : (d.back d').Ok G where
  dWO := fun b z y => ok'.dWO b z (by rw [s.O]; exact .inl y)
  dWA := fun b z y => ok'.dWO b z (by rw [s.O]; exact .inr y)
  dOA := ok.dOA
  inj := ok.inj
  al := fun b z => ok'.al b ((back_D s hA).mp z)
  wl := ok'.wl
  sm := ok'.sm
theorem back_rel (rel : Rel G d env σ) (s : Stp d.in_ d') (ok' : d'.Ok G) (hA : d'.A = []) : Rel G (d.back d') env σ where
  ok := back_ok rel.ok s ok' hA
  lenA := rel.lenA
  lenS := rel.lenS
  sl := fun i x e => by
    obtain ⟨v, h1, h2⟩ := rel.sl i x e
    exact ⟨v, h1, (back_stp s).rp h2⟩
  so := fun i x e => by
    obtain ⟨a, o, h1, h2, h3, h4⟩ := rel.so i x e
    refine ⟨a, o, h1, h2, s.keep a o h3 (fun z => rel.ok.dWA a z (List.mem_iff_getElem?.mpr ⟨i, h1⟩)) (by simp [Wd.in_]), (back_stp s).rpc h4⟩
theorem back_R (s : Stp d.in_ d') (hA : d'.A = []) : (d.back d').R = d'.R := msk_congr fun b => back_D s hA
theorem back_addR (s : Stp d.in_ d') (hA : d'.A = []) {p : Addr} : ((d.back d').add p).R = (d'.add p).R := msk_congr fun b => by
  have := back_D s hA (b := b)
  unfold Wd.D Wd.add at *
  constructor
  · rintro (z | (z | z) | z)
    · exact .inl z
    · rcases this.mp (.inr (.inl z)) with z | z | z
      · exact .inl z
      · exact .inr (.inl (.inl z))
      · exact .inr (.inr z)
    · exact .inr (.inl (.inr z))
    · rcases this.mp (.inr (.inr z)) with z | z | z
      · exact .inl z
      · exact .inr (.inl (.inl z))
      · exact .inr (.inr z)
  · rintro (z | (z | z) | z)
    · exact .inl z
    · rcases this.mpr (.inr (.inl z)) with z | z | z
      · exact .inl z
      · exact .inr (.inl (.inl z))
      · exact .inr (.inr z)
    · exact .inr (.inl (.inr z))
    · rcases this.mpr (.inr (.inr z)) with z | z | z
      · exact .inl z
      · exact .inr (.inl (.inl z))
      · exact .inr (.inr z)
end
/-- a fresh p is in no older value: what was related ahead of it stays so without it -/
theorem same_fresh {d d' : Wd} (s : Stp d d') {p : Addr} (hp : d.H p = none) : Same d.R (d'.add p).R := fun b o h => by
  have hb := (msk_some.mp h).2
  have := s.same b o h
  obtain ⟨hd', hb'⟩ := msk_some.mp this
  refine msk_some.mpr ⟨fun z => ?_, hb'⟩
  rcases z with z | (z | z) | z
  · exact hd' (.inl z)
  · exact hd' (.inr (.inl z))
  · subst z; rw [hb] at hp; cases hp
  · exact hd' (.inr (.inr z))
theorem back_rel_add {G : Gv} {d d' : Wd} {env : Env} {σ : St} (rel : Rel G d env σ) (s : Stp d.in_ d') (ok' : d'.Ok G) (hA : d'.A = []) {p : Addr} {o : HO} (hp : d.H p = none) (hn : ¬ d'.D p) (e : d'.H p = some o) : Rel G ((d.back d').add p) env σ := by
  have bo := back_ok rel.ok s ok' hA
  have sm := same_fresh (back_stp s) hp
  have hb : ¬ (d.back d').D p := fun z => hn ((back_D s hA).mp z)
  refine ⟨⟨fun b z y => ?_, bo.dWA, fun b z y => ?_, bo.inj, fun b z => ?_, bo.wl, bo.sm⟩, rel.lenA, rel.lenS, fun i x q => ?_, fun i x q => ?_⟩
  · rcases y with y | y
    · exact bo.dWO b z y
    · subst y; exact hb (.inl z)
  · rcases z with z | z
    · exact bo.dOA b z y
    · subst z; exact hb (.inr (.inr y))
  · rcases z with z | (z | z) | z
    · exact bo.al b (.inl z)
    · exact bo.al b (.inr (.inl z))
    · subst z; show d'.H b ≠ none; rw [e]; simp
    · exact bo.al b (.inr (.inr z))
  · obtain ⟨v, h1, h2⟩ := rel.sl i x q
    exact ⟨v, h1, h2.mono s.w1 sm⟩
  · obtain ⟨a, u, h1, h2, h3, h4⟩ := rel.so i x q
    exact ⟨a, u, h1, h2, s.keep a u h3 (fun z => rel.ok.dWA a z (List.mem_iff_getElem?.mpr ⟨i, h1⟩)) (by simp [Wd.in_]), h4.mono s.w1 sm⟩
/-- a call's result in the caller -/
theorem RT.post {G : Gv} {d d' : Wd} {env : Env} {σ : St} {tv : TV} {v : V} (rel : Rel G d env σ) (s : Stp d.in_ d') (ok' : d'.Ok G) (hA : d'.A = []) (r : RT G d.in_ d' tv v) : Post G d (d.back d') env σ tv v := by
  cases r with
  | v r => exact .v (back_rel rel s ok' hA) (by rw [back_R s hA]; exact r)
  | @own x p o hp hn e r => exact .own hp (fun z => hn ((back_D s hA).mp z)) (back_rel_add rel s ok' hA hp hn e) e (by rw [back_addR s hA]; exact r)
def isStar : Expr → Bool
  | .Starred _ _ => true
  | _ => false
theorem star_cons {e : Expr} {es : List Expr} {env : PySem.Env} (h : isStar e = false) : starEach (e :: es) env = (false, eval e env) :: starEach es env := by
  cases e <;> first | rfl | cases h
theorem star_any {pos : Pos} {env : PySem.Env} : ∀ {es : List Expr}, es.any isStar = false → (backTo pos (starEach es env)).any (·.1) = false
  | [], _ => rfl
  | e :: es, h => by
    rw [List.any_cons, Bool.or_eq_false_iff] at h
    rw [star_cons h.1]
    show (false || (backTo pos (starEach es env)).any (·.1)) = false
    rw [star_any h.2]
    rfl
/-- f(e, ..) by a known promise -/
theorem call_run {G : Gv} {n : Nat} {F : FW} {ms : List OW} {σ : St} {d : Wd} {env : Env} {Qp : TV → Env → Prop} {Q : VK} {E : XK} (rel : Rel G d env σ) (h : oCall n F ms env Qp) (q : ∀ tv env' v d', Qp tv env' → Stp d d' → Post G d d' env' σ tv v → Q v d'.H) :
    argsTA G ms σ d.H fun vs H1 => spOf G n F (vs ++ []) H1 Q E :=
  args_run rel h fun xs e vs d1 k s rel1 r _ => ⟨d1.in_, xs, _, rfl, rfl, rel1.ok.in_, by rw [List.append_nil, Wd.in_R]; exact r, k.1, k.2, fun tv v d2 k2 s2 hA ok2 rt => q tv e v (d1.back d2) k2 (s.trans (back_stp s2)) ((rt.post rel1 s2 ok2 hA).from s)⟩
section
variable {X : Cx} {G : Gv} {k : Nat}
theorem so_call {x : Str} {p pos : Pos} {e : Expr} {es : List Expr} {n : Nat} {F : FW} {ms : List OW} {f : Addr} {fd : FuncData} {ps : List Str} (cx : CxOk X G k) (FO : FnOk X.prog X.w X.K X.mg X.base CX0 k f fd ps (spOf G n F)) (hg : Gl X x) (hm : X.mg x = some (.ref f))
    (hk : PySem.W.keepIn X.K (.ref f) = true) (hb : Binds X.K fd ps []) (ha : PA X (e :: es) (argsTA G ms)) (hs : (e :: es).any isStar = false) (hd : (x == ("__debug__" : Str)) = false) : SO X G (.Call (.Name x p) (e :: es) [] pos) (oCall n F ms) :=
  PE.imp (pe_call (E := E0) FO cx.room hg hm hk hb .nil pass0 ha (hdb := hd) (he := star_cons (by rw [List.any_cons, Bool.or_eq_false_iff] at hs; exact hs.1)) (hpl := star_any (by rw [List.any_cons, Bool.or_eq_false_iff] at hs; exact hs.2))) fun σ H Q ⟨d, env, Qp, hH, rel, h, q⟩ => by
    subst hH
    exact call_run rel h q
end
end IL

/-! IL4: targets, what is walked, comprehensions of one clause. -/
namespace IL
open PySem PySem.Spec PyProof.Rows L2

/-! ### targets -/
abbrev GW := PV → Env → (Env → Prop) → Prop
def OffEq (ts : List Nat) (σ σ' : St) : Prop := σ'.length = σ.length ∧ ∀ i, i ∉ ts → σ'[i]? = σ[i]?
theorem OffEq.refl (ts : List Nat) (σ : St) : OffEq ts σ σ := ⟨rfl, fun _ _ => rfl⟩
theorem OffEq.trans {ts us : List Nat} {a b c : St} (h : OffEq ts a b) (k : OffEq us b c) : OffEq (ts ++ us) a c :=
  ⟨k.1.trans h.1, fun i hi => (k.2 i fun z => hi (List.mem_append_right _ z)).trans (h.2 i fun z => hi (List.mem_append_left _ z))⟩
def tSG (G : Gv) (ts : List Nat) (g : GW) : TG := fun v σ H Q => ∃ (d : Wd) (env : Env) (x : PV) (Qp : Env → Prop), d.H = H ∧ Rel G d env σ ∧ Rp G d.W d.R v x ∧ g x env Qp ∧
  ∀ env' σ' d', Qp env' → Stp d d' → Rel G d' env' σ' → OffEq ts σ σ' → Q σ' d'.H
abbrev SG (X : Cx) (G : Gv) (tg : Expr) (ts : List Nat) (g : GW) : Prop := PG X tg (tSG G ts g)
def gNm (i : Nat) : GW := fun x env Q => Q (env.set i (some (.v x)))
def gEach : List GW → List PV → Env → (Env → Prop) → Prop
  | [], [], env, Q => Q env
  | g :: gs, x :: xs, env, Q => g x env fun e => gEach gs xs e Q
  | _, _, _, _ => False
def tSGs (G : Gv) (ts : List Nat) (gs : List GW) : TGs := fun vs σ H Q => ∃ (d : Wd) (env : Env) (xs : List PV) (Qp : Env → Prop), d.H = H ∧ Rel G d env σ ∧ Rps G d.W d.R vs xs ∧ gEach gs xs env Qp ∧
  ∀ env' σ' d', Qp env' → Stp d d' → Rel G d' env' σ' → OffEq ts σ σ' → Q σ' d'.H
theorem PGs.imp {X : Cx} {tg : List Expr} {t t' : TGs} (h : PGs X tg t) (i : ∀ v σ H Q, t' v σ H Q → t v σ H Q) : PGs X tg t' := ⟨fun pins s σ H v u Q I r q => h.run pins s σ H v u Q I r (i v σ H Q q)⟩
section
variable {X : Cx} {G : Gv} {k : Nat}
theorem sg_name {i : Nat} {x : Str} {pos : Pos} (cx : CxOk X G k) (hi : X.N[i]? = some x) (hx : Loc X.env.scope x) (hf : X.fn x = true ∨ X.env.scope.names.lookup x = some .local) : SG X G (.Name x pos) [i] (gNm i) :=
  PG.imp (pg_name cx.nd hi hx hf) fun v σ H Q ⟨d, env, x, Qp, hH, rel, r, h, q⟩ => by
    subst hH
    refine q _ _ (d.drop i) h (Stp.drop d i) (rel.setv r) ⟨by simp, fun j hj => ?_⟩
    rw [List.getElem?_set_ne]
    exact fun e => hj (by simp [e])
theorem sgs_nil : PGs X [] (tSGs G [] []) :=
  PGs.imp pgs_nil fun v σ H Q ⟨d, env, xs, Qp, hH, rel, r, h, q⟩ => by
    subst hH
    cases r with
    | nil => exact ⟨rfl, q env σ d h (Stp.refl d) rel (OffEq.refl _ _)⟩
    | cons _ _ => exact h.elim
theorem sgs_cons {e : Expr} {es : List Expr} {ts us : List Nat} {g : GW} {gs : List GW} (h1 : SG X G e ts g) (h2 : PGs X es (tSGs G us gs)) (hs : isStar e = false) : PGs X (e :: es) (tSGs G (ts ++ us) (g :: gs)) :=
  PGs.imp (pgs_cons h1 h2 (hs := by cases e <;> first | rfl | cases hs)) fun v σ H Q ⟨d, env, xs, Qp, hH, rel, r, h, q⟩ => by
    subst hH
    cases r with
    | nil => exact h.elim
    | cons r rs => exact ⟨_, _, rfl, d, env, _, _, rfl, rel, r, h, fun e1 σ1 d1 k1 s1 rel1 o1 => ⟨d1, e1, _, _, rfl, rel1, s1.rps rs, k1, fun e2 σ2 d2 k2 s2 rel2 o2 => q e2 σ2 d2 k2 (s1.trans s2) rel2 (o1.trans o2)⟩⟩
theorem assignEach_len {env : PySem.Env} : ∀ {es : List Expr}, (assignEach es env).length = es.length
  | [] => rfl
  | e :: es => by
    cases e <;> exact congrArg Nat.succ (assignEach_len (es := es))
theorem assignEach_nostar {env : PySem.Env} : ∀ {es : List Expr}, es.any isStar = false → (assignEach es env).findIdx? (·.1) = none
  | [], _ => rfl
  | e :: es, h => by
    rw [List.any_cons, Bool.or_eq_false_iff] at h
    have ih := assignEach_nostar (env := env) h.2
    have : assignEach (e :: es) env = (false, assign e env) :: assignEach es env := by
      have h1 := h.1
      cases e <;> first | rfl | cases h1
    rw [this, List.findIdx?_cons]
    simp [ih]
end
/-- a, b = .. -/
def gTup (gs : List GW) : GW := fun x env Q => match x with
  | .tup xs => xs.length = gs.length ∧ gEach gs xs env Q
  | .lst xs => xs.length = gs.length ∧ gEach gs xs env Q
  | _ => False
theorem PG.or {X : Cx} {tg : Expr} {t t' : TG} (h : PG X tg t) (h' : PG X tg t') : PG X tg (fun v σ H Q => t v σ H Q ∨ t' v σ H Q) :=
  ⟨fun pins s σ H v u Q I r q => q.elim (h.run pins s σ H v u Q I r) (h'.run pins s σ H v u Q I r)⟩
section
variable {X : Cx} {G : Gv} {k : Nat}
theorem sg_tuple {es : List Expr} {ts : List Nat} {gs : List GW} {kk : Nat} {pos : Pos} (cx : CxOk X G k) (h : PGs X es (tSGs G ts gs)) (hs : es.any isStar = false) (hl : gs.length = es.length) : SG X G (.Tuple es kk pos) ts (gTup gs) :=
  PG.imp (PG.or (pg_tup cx.calm h (hn := assignEach_len) (hst := assignEach_nostar hs)) (pg_unl cx.calm h (hn := assignEach_len) (hst := assignEach_nostar hs))) fun v σ H Q ⟨d, env, x, Qp, hH, rel, r, h, q⟩ => by
    subst hH
    cases r with
    | @tup a vs xs e r => exact .inl ⟨a, vs, rfl, SqT.of (R_sub _ _ e), by rw [r.length, h.1, hl], d, env, xs, Qp, rfl, rel, r, h.2, q⟩
    | @lst a vs xs e r => exact .inr ⟨a, vs, rfl, SqL.of (R_sub _ _ e), by rw [r.length, h.1, hl], d, env, xs, Qp, rfl, rel, r, h.2, q⟩
    | _ => exact h.elim
end

/-! ### what is walked -/
abbrev IW := Env → (List PV → Env → Prop) → Prop
structure Yields (G : Gv) (J : It) (xs : List PV) (d0 : Wd) : Prop where
  go : ∀ d (i : Nat), StpU d0 d → d.Ok G → i < xs.length → J.go i d.H
  yld : ∀ d (i : Nat) v H', StpU d0 d → d.Ok G → i < xs.length → J.yld i d.H v H' → ∃ x, xs[i]? = some x ∧ Res G d (.v x) v H'
  stop : ∀ d, StpU d0 d → d.Ok G → J.stop xs.length d.H
def tSI (G : Gv) (w : IW) : TI := fun σ H R => ∃ (d : Wd) (env : Env) (Qp : List PV → Env → Prop), d.H = H ∧ Rel G d env σ ∧ w env Qp ∧
  ∀ xs env' d' J, Qp xs env' → Stp d d' → Rel G d' env' σ → Yields G J xs d' → R J d'.H
abbrev SI (X : Cx) (G : Gv) (tg e : Expr) (w : IW) : Prop := PI X tg e (tSI G w)
theorem Yields.list {G : Gv} {d0 : Wd} {a : Addr} {vs : List V} {xs : List PV} (h : SqL G.K d0.R a vs) (r : Rps G d0.W d0.R vs xs) : Yields G (Itl G.K a) xs d0 where
  go := fun d i s ok hi => by
    obtain ⟨v, hv, _⟩ := (s.rps r).get' i (List.getElem?_eq_getElem hi)
    exact ⟨vs, v, Same.seq R_sub (Same.seq s.same h), hv⟩
  yld := fun d i v H' s ok hi ⟨e, f⟩ => by
    subst e
    have hv := f vs (Same.seq R_sub (Same.seq s.same h))
    obtain ⟨x, hx, rx⟩ := (s.rps r).get i hv
    exact ⟨x, hx, .same rx⟩
  stop := fun d s ok => ⟨vs, Same.seq R_sub (Same.seq s.same h), Nat.le_of_eq r.length⟩
theorem Yields.tuple {G : Gv} {d0 : Wd} {a : Addr} {vs : List V} {xs : List PV} (h : SqT G.K d0.R a vs) (r : Rps G d0.W d0.R vs xs) : Yields G (Itt G.K a) xs d0 where
  go := fun d i s ok hi => by
    obtain ⟨v, hv, _⟩ := (s.rps r).get' i (List.getElem?_eq_getElem hi)
    exact ⟨vs, v, SqT.same R_sub (SqT.same s.same h), hv⟩
  yld := fun d i v H' s ok hi ⟨e, f⟩ => by
    subst e
    have hv := f vs (SqT.same R_sub (SqT.same s.same h))
    obtain ⟨x, hx, rx⟩ := (s.rps r).get i hv
    exact ⟨x, hx, .same rx⟩
  stop := fun d s ok => ⟨vs, SqT.same R_sub (SqT.same s.same h), Nat.le_of_eq r.length⟩
def rangePV (lo : Int) (n : Nat) : List PV := (List.range n).map fun i => .int (lo + (i : Nat))
theorem Yields.range {G : Gv} {d0 : Wd} {lo : Int} {n : Nat} : Yields G (Itr lo n) (rangePV lo n) d0 where
  go := fun d i s ok hi => by
    have hi : i < (rangePV lo n).length := hi
    simp only [rangePV, List.length_map, List.length_range] at hi
    exact hi
  yld := fun d i v H' s ok hi ⟨e, f⟩ => by
    subst e f
    have hi' : i < n := by
      have hi : i < (rangePV lo n).length := hi
      simpa only [rangePV, List.length_map, List.length_range] using hi
    exact ⟨.int (lo + (i : Nat)), by simp [rangePV, hi'], .same (.int _)⟩
  stop := fun d s ok => by
    show n ≤ (rangePV lo n).length
    simp [rangePV]
def strPV (x : Str) : List PV := x.cps.toList.map fun c => .str ⟨#[c]⟩
theorem Yields.str {G : Gv} {d0 : Wd} {x : Str} : Yields G (Its x) (strPV x) d0 where
  go := fun d i s ok hi => by
    have hi : i < (strPV x).length := hi
    show i < x.cps.size
    simpa [strPV] using hi
  yld := fun d i v H' s ok hi ⟨e, c, hc, f⟩ => by
    subst e f
    refine ⟨.str ⟨#[c]⟩, ?_, .same (.str _)⟩
    simp only [strPV, List.getElem?_map, Array.getElem?_toList, hc, Option.map_some]
  stop := fun d s ok => by
    show x.cps.size ≤ (strPV x).length
    simp [strPV]
/-- what a plain value yields -/
def seqOf : PV → Option (List PV)
  | .tup xs => some xs
  | .lst xs => some xs
  | .str x => some (strPV x)
  | .scr ns => some (ns.map .int)
  | _ => none
def iSeq (m : OW) : IW := fun env Q => m env fun tv e => match seqOf tv.pv with
  | some xs => Q xs e
  | none => False
section
variable {X : Cx} {G : Gv} {k : Nat}
def iAny (K : PySem.W.Frag) (tl : TE) : TI := fun σ H R => tl σ H fun x H1 => (∃ a, x = .ref a ∧ (∃ xs, SqL K H1 a xs) ∧ R (Itl K a) H1) ∨ (∃ a, x = .ref a ∧ (∃ xs, SqT K H1 a xs) ∧ R (Itt K a) H1) ∨ ∃ z, x = .str z ∧ R (Its z) H1
theorem pi_any {tg l : Expr} {tl : TE} (hl : PE X l tl) : PI X tg l (iAny X.K tl) := by
  refine ⟨fun pins s σ H R I h => ?_⟩
  refine thn (hl.run pins s σ H _ I h) fun v s1 ⟨x, H1, I1, r1, q1⟩ => ?_
  rcases q1 with ⟨a, e, ⟨xs, hq⟩, q⟩ | ⟨a, e, ⟨xs, hq⟩, q⟩ | ⟨z, e, q⟩
  · subst e
    cases r1
    obtain ⟨its, rv, p, hz⟩ := I1.list hq
    refine wpAny_pyIter_list p.isList ?_
    refine ⟨s1.heap.objs.size, [s1.heap.objs.size], _, _, H1, rfl, I1.kept (t' := s1.toks) fun b o e => Heap.get?_push_of_some _ e, turn_list a _, ⟨_, Heap.get?_push_size _ rfl, rfl, rfl⟩, fun b hb => ?_, q⟩
    have e : b = s1.heap.objs.size := by simpa using hb
    subst e
    exact I1.fpOk (Nat.le_refl _) (I1.hok.fresh (Nat.le_refl _))
  · subst e
    cases r1
    obtain ⟨its, rv, p, hz⟩ := I1.tuple hq
    refine wpAny_pyIter_tuple (show s1.heap.IsTuple a its.toArray from p) ?_
    refine ⟨s1.heap.objs.size, [s1.heap.objs.size], _, _, H1, rfl, I1.kept (t' := s1.toks) fun b o e => Heap.get?_push_of_some _ e, turn_tuple a _, ⟨_, Heap.get?_push_size _ rfl, rfl, rfl⟩, fun b hb => ?_, q⟩
    have e : b = s1.heap.objs.size := by simpa using hb
    subst e
    exact I1.fpOk (Nat.le_refl _) (I1.hok.fresh (Nat.le_refl _))
  · subst e
    obtain ⟨t, rfl⟩ := r1
    cases ha : z.cps.all (· < 128)
    · exact wpAny_pyIter_wide ha (pi_one (tk := s1.toks) I1 _ (turn_str _ z t "str_iterator" (.inr rfl)) ⟨_, Heap.get?_push_size _ rfl, rfl, rfl⟩ q)
    · exact wpAny_pyIter_ascii ha (pi_one (tk := s1.toks) I1 _ (turn_str _ z t "str_ascii_iterator" (.inl rfl)) ⟨_, Heap.get?_push_size _ rfl, rfl, rfl⟩ q)
theorem Rp.yields {d : Wd} {v : V} {x : PV} {xs : List PV} (r : Rp G d.W d.R v x) (e : seqOf x = some xs) {R : It → Hp → Prop} (q : ∀ J, Yields G J xs d → R J d.H) :
    (∃ a, v = .ref a ∧ (∃ xs, SqL G.K d.H a xs) ∧ R (Itl G.K a) d.H) ∨ (∃ a, v = .ref a ∧ (∃ xs, SqT G.K d.H a xs) ∧ R (Itt G.K a) d.H) ∨ ∃ z, v = .str z ∧ R (Its z) d.H := by
  cases r with
  | @tup a vs ys h r =>
    cases e
    exact .inr (.inl ⟨a, rfl, ⟨_, SqT.of (R_sub _ _ h)⟩, q _ (Yields.tuple (SqT.of h) r)⟩)
  | @lst a vs ys h r =>
    cases e
    exact .inl ⟨a, rfl, ⟨_, SqL.of (R_sub _ _ h)⟩, q _ (Yields.list (SqL.of h) r)⟩
  | str z =>
    cases e
    exact .inr (.inr ⟨z, rfl, q _ Yields.str⟩)
  | @scr a ns h =>
    cases e
    exact .inl ⟨a, rfl, ⟨_, Same.seq R_sub h⟩, q _ (Yields.list h (Rps.ints ns))⟩
  | _ => cases e
theorem si_seq {tg e : Expr} {m : OW} (cx : CxOk X G k) (h : SO X G e m) : SI X G tg e (iSeq m) :=
  PI.imp (pi_any h) fun σ H R ⟨d, env, Qp, hH, rel, h, q⟩ => by
    rw [cx.K]
    refine ⟨d, env, _, hH, rel, h, fun tv e v d' k s p => ?_⟩
    obtain ⟨rel', r⟩ := p.frz
    cases hx : seqOf tv.pv with
    | none => rw [hx] at k; exact k.elim
    | some xs =>
      rw [hx] at k
      exact r.yields hx fun J y => q xs e d' J k s rel' y
/-- range of one, two, three -/
def iRange1 (m : OW) : IW := fun env Q => m env fun tv e => match tv.pv with
  | .int j => (-(2 ^ 62) ≤ j ∧ j < 2 ^ 62) ∧ Q (rangePV 0 j.toNat) e
  | _ => False
def iRange2 (m u : OW) : IW := fun env Q => m env fun tv e => u e fun tv2 e2 => match tv.pv, tv2.pv with
  | .int i, .int j => (-(2 ^ 62) ≤ i ∧ i < 2 ^ 62 ∧ -(2 ^ 62) ≤ j ∧ j < 2 ^ 62) ∧ Q (rangePV i (j - i).toNat) e2
  | _, _ => False
theorem si_range1 {tg a : Expr} {m : OW} {p pos : Pos} (h : SO X G a m) (hs : isStar a = false) (hg : Gl X "range") (hm : X.mg "range" = none) : SI X G tg (.Call (.Name "range" p) [a] [] pos) (iRange1 m) :=
  PI.imp (pi_range1 hg hm (pa_cons h pa_nil (hs := star_cons hs)) (hs := star_cons hs)) fun σ H R ⟨d, env, Qp, hH, rel, h, q⟩ => ⟨d, env, _, hH, rel, h, fun tv e v d' k s p => by
    obtain ⟨rel', r⟩ := p.frz
    cases hx : tv.pv with
    | int j =>
      rw [hx] at k r
      cases r
      exact ⟨j, rfl, k.1.1, k.1.2, q _ e d' _ k.2 s rel' Yields.range⟩
    | _ => rw [hx] at k; exact k.elim⟩
theorem si_range2 {tg a b : Expr} {m u : OW} {p pos : Pos} (h : SO X G a m) (h2 : SO X G b u) (hs : isStar a = false) (hs2 : isStar b = false) (hg : Gl X "range") (hm : X.mg "range" = none) : SI X G tg (.Call (.Name "range" p) [a, b] [] pos) (iRange2 m u) :=
  PI.imp (pi_range2 hg hm (pa_cons h (pa_cons h2 pa_nil (hs := star_cons hs2)) (hs := star_cons hs)) (hs := by rw [star_cons hs, star_cons hs2]; rfl) (hs2 := star_cons hs2)) fun σ H R ⟨d, env, Qp, hH, rel, h, q⟩ => ⟨d, env, _, hH, rel, h, fun tv e v d1 k1 s1 p1 => by
    obtain ⟨rel1, r1⟩ := p1.frz
    refine ⟨d1, e, _, rfl, rel1, k1, fun tv2 e2 v2 d2 k2 s2 p2 => ?_⟩
    obtain ⟨rel2, r2⟩ := p2.frz
    cases hx : tv.pv with
    | int i =>
      cases hy : tv2.pv with
      | int j =>
        rw [hx, hy] at k2
        rw [hx] at r1
        rw [hy] at r2
        cases r1
        cases r2
        exact ⟨i, j, rfl, k2.1, q _ e2 d2 _ k2.2 (s1.trans s2) rel2 Yields.range⟩
      | _ => rw [hx, hy] at k2; exact k2.elim
    | _ => rw [hx] at k2; exact k2.elim⟩
/-- enumerate, zip: their pairs -/
def enumPV : Nat → List PV → List PV
  | _, [] => []
  | i, x :: xs => .tup [.int (i : Nat), x] :: enumPV (i + 1) xs
theorem enumPV_get : ∀ {xs : List PV} {j i : Nat} {x : PV}, xs[i]? = some x → (enumPV j xs)[i]? = some (.tup [.int ((j + i : Nat) : Int), x])
  | [], _, _, _, h => by simp at h
  | y :: ys, j, 0, x, h => by
    simp at h
    subst h
    rfl
  | y :: ys, j, i + 1, x, h => by
    have := enumPV_get (xs := ys) (j := j + 1) (i := i) (x := x) (by simpa using h)
    show (enumPV (j + 1) ys)[i]? = _
    rw [this]
    congr 4
    omega
theorem enumPV_length : ∀ {xs : List PV} {j : Nat}, (enumPV j xs).length = xs.length
  | [], _ => rfl
  | _ :: xs, j => congrArg Nat.succ (enumPV_length (xs := xs) (j := j + 1))
theorem Yields.enum {d0 : Wd} {a : Addr} {vs : List V} {xs : List PV} (h : SqL G.K d0.R a vs) (r : Rps G d0.W d0.R vs xs) : Yields G (Ite G.K a) (enumPV 0 xs) d0 where
  go := fun d i s ok hi => by
    rw [enumPV_length] at hi
    obtain ⟨v, hv, _⟩ := (s.rps r).get' i (List.getElem?_eq_getElem hi)
    exact ⟨vs, v, Same.seq R_sub (Same.seq s.same h), hv⟩
  yld := fun d i v H' s ok hi ⟨T, y, e1, e2, e3, f⟩ => by
    subst e1 e3
    have hv := f vs (Same.seq R_sub (Same.seq s.same h))
    obtain ⟨x, hx, rx⟩ := (s.rps r).get i hv
    exact ⟨_, enumPV_get hx, .tup e2 (by show 2 ≤ sizeLine; decide) (.cons (by rw [Nat.zero_add]; exact .int _) (.cons rx .nil))⟩
  stop := fun d s ok => ⟨vs, Same.seq R_sub (Same.seq s.same h), by rw [enumPV_length]; exact Nat.le_of_eq r.length⟩
def lstOf : PV → Option (List PV)
  | .lst xs => some xs
  | .scr ns => some (ns.map .int)
  | _ => none
def iEnumL (m : OW) : IW := fun env Q => m env fun tv e => match lstOf tv.pv with
  | some xs => Q (enumPV 0 xs) e
  | none => False
theorem Rp.sqL {d : Wd} {v : V} {x : PV} {xs : List PV} (r : Rp G d.W d.R v x) (e : lstOf x = some xs) : ∃ a vs, v = .ref a ∧ SqL G.K d.R a vs ∧ Rps G d.W d.R vs xs := by
  cases r with
  | @lst a vs ys h r => cases e; exact ⟨a, vs, rfl, SqL.of h, r⟩
  | @scr a ns h => cases e; exact ⟨a, _, rfl, h, Rps.ints ns⟩
  | _ => cases e
theorem si_enum {elts : List Expr} {kk : Nat} {tpos p pos : Pos} {e : Expr} {m : OW} (cx : CxOk X G k) (h : SO X G e m) (hs : isStar e = false) (hg : Gl X "enumerate") (hm : X.mg "enumerate" = none) : SI X G (.Tuple elts kk tpos) (.Call (.Name "enumerate" p) [e] [] pos) (iEnumL m) :=
  PI.imp (pi_enum hg hm (pa_cons h pa_nil (hs := star_cons hs)) (hs := star_cons hs)) fun σ H R ⟨d, env, Qp, hH, rel, h, q⟩ => ⟨d, env, _, hH, rel, h, fun tv e v d' k s p => by
    obtain ⟨rel', r⟩ := p.frz
    cases hx : lstOf tv.pv with
    | none => rw [hx] at k; exact k.elim
    | some xs =>
      rw [hx] at k
      obtain ⟨a, vs, e1, h1, h2⟩ := r.sqL hx
      subst e1
      exact ⟨a, vs, rfl, by rw [cx.K]; exact Same.seq R_sub h1, by rw [cx.K]; exact q _ e d' _ k s rel' (Yields.enum h1 h2)⟩⟩
def zipPV : List PV → List PV → List PV
  | x :: xs, y :: ys => .tup [x, y] :: zipPV xs ys
  | _, _ => []
theorem zipPV_length : ∀ {xs ys : List PV}, (zipPV xs ys).length = min xs.length ys.length
  | [], _ => by simp [zipPV]
  | _ :: _, [] => by simp [zipPV]
  | x :: xs, y :: ys => by simp [zipPV, zipPV_length (xs := xs) (ys := ys)]
theorem zipPV_get : ∀ {xs ys : List PV} {i : Nat} {x y : PV}, xs[i]? = some x → ys[i]? = some y → (zipPV xs ys)[i]? = some (.tup [x, y])
  | [], _, _, _, _, h, _ => by simp at h
  | _ :: _, [], _, _, _, _, h => by simp at h
  | a :: xs, b :: ys, 0, x, y, h, h' => by
    simp at h h'
    subst h h'
    rfl
  | a :: xs, b :: ys, i + 1, x, y, h, h' => zipPV_get (xs := xs) (ys := ys) (i := i) (by simpa using h) (by simpa using h')
/-! ### comprehensions -/
def wipeE (env : Env) : List Nat → Env
  | [] => env
  | v :: vs => (wipeE env vs).set v none
/-- the block's own names as they were -/
def restE (env : Env) (e : Env) : List Nat → Env
  | [] => e
  | v :: vs => (restE env e vs).set v (env[v]?.join)
def noOwn (env : Env) : List Nat → Bool
  | [] => true
  | v :: vs => (match env[v]? with | some (some (.own _)) => false | _ => true) && noOwn env vs
def wComp (vs : List Nat) (g : GW) (t : TW) (m : OW) : List PV → List PV → Env → (List PV → Env → Prop) → Prop
  | [], acc, env, Q => Q acc env
  | x :: xs, acc, env, Q => g x (wipeE env vs) fun e1 => t e1 fun b e2 => if b = true then m e2 fun tv e3 => wComp vs g t m xs (acc ++ [tv.pv]) (restE env e3 vs) Q else wComp vs g t m xs acc (restE env e2 vs) Q
def oComp (vs : List Nat) (w : IW) (g : GW) (t : TW) (m : OW) : OW := fun env Q => w env fun xs e => xs.length ≤ sizeLine ∧ noOwn e vs = true ∧ wComp vs g t m xs [] e fun acc e2 => Q (.own (.lst acc)) e2
theorem wipeE_get {env : Env} {i : Nat} {tv : TV} : ∀ {vs : List Nat}, (wipeE env vs)[i]? = some (some tv) → env[i]? = some (some tv) ∧ i ∉ vs
  | [], h => ⟨h, by simp⟩
  | v :: vs, h => by
    rcases set_get (show ((wipeE env vs).set v none)[i]? = _ from h) with ⟨_, e⟩ | ⟨hn, e⟩
    · cases e
    · obtain ⟨h1, h2⟩ := wipeE_get e
      exact ⟨h1, by simp [hn, h2]⟩
theorem wipeE_length {env : Env} : ∀ {vs : List Nat}, (wipeE env vs).length = env.length
  | [] => rfl
  | v :: vs => by
    show ((wipeE env vs).set v none).length = _
    rw [List.length_set, wipeE_length]
theorem restE_length {env e : Env} : ∀ {vs : List Nat}, (restE env e vs).length = e.length
  | [] => rfl
  | v :: vs => by
    show ((restE env e vs).set v _).length = _
    rw [List.length_set, restE_length]
theorem restE_in {env e : Env} {i : Nat} : ∀ {vs : List Nat}, i ∈ vs → i < e.length → (restE env e vs)[i]? = some (env[i]?.join)
  | v :: vs, h, hl => by
    show ((restE env e vs).set v _)[i]? = _
    by_cases hv : i = v
    · subst hv
      rw [List.getElem?_set_self (by rw [restE_length]; exact hl)]
    · rw [List.getElem?_set_ne (Ne.symm hv)]
      exact restE_in (by simpa [hv] using h) hl
theorem restE_out {env e : Env} {i : Nat} : ∀ {vs : List Nat}, i ∉ vs → (restE env e vs)[i]? = e[i]?
  | [], _ => rfl
  | v :: vs, h => by
    show ((restE env e vs).set v _)[i]? = _
    rw [List.getElem?_set_ne (fun z => h (by simp [z]))]
    exact restE_out fun z => h (List.mem_cons_of_mem _ z)
theorem noOwn_at {env : Env} {i : Nat} {x : PV} : ∀ {vs : List Nat}, noOwn env vs = true → i ∈ vs → env[i]? ≠ some (some (.own x))
  | v :: vs, h, hm => fun e => by
    unfold noOwn at h
    rw [Bool.and_eq_true] at h
    rcases List.mem_cons.mp hm with rfl | hm
    · rw [e] at h
      exact Bool.false_ne_true h.1
    · exact noOwn_at h.2 hm e
theorem wipe_off {σ : St} {i : Nat} : ∀ {vs : List Nat}, i ∉ vs → (wipe σ vs)[i]? = σ[i]?
  | [], _ => rfl
  | v :: vs, h => by
    show ((wipe σ vs).set v none)[i]? = _
    rw [List.getElem?_set_ne (fun z => h (by simp [z]))]
    exact wipe_off fun z => h (List.mem_cons_of_mem _ z)
theorem wipe_on {σ : St} {i : Nat} : ∀ {vs : List Nat}, i ∈ vs → i < σ.length → (wipe σ vs)[i]? = some none
  | v :: vs, h, hl => by
    show ((wipe σ vs).set v none)[i]? = _
    by_cases hv : i = v
    · subst hv
      rw [List.getElem?_set_self (by rw [wipe_length]; exact hl)]
    · rw [List.getElem?_set_ne (Ne.symm hv)]
      exact wipe_on (by simpa [hv] using h) hl
theorem wipe_offEq {σ σ' : St} {ts vs : List Nat} (h : OffEq ts (wipe σ vs) σ') (hs : ∀ i ∈ ts, i ∈ vs) : wipe σ' vs = wipe σ vs := by
  apply List.ext_getElem?
  intro i
  have hl : σ'.length = σ.length := by rw [h.1, wipe_length]
  by_cases hi : i ∈ vs
  · by_cases hb : i < σ.length
    · rw [wipe_on hi hb, wipe_on hi (by omega)]
    · rw [List.getElem?_eq_none (by rw [wipe_length]; omega), List.getElem?_eq_none (by rw [wipe_length]; omega)]
  · rw [wipe_off hi, h.2 i fun z => hi (hs i z)]
theorem Rel.wipe {d : Wd} {env : Env} {σ : St} (rel : Rel G d env σ) (vs : List Nat) : Rel G d (wipeE env vs) (L2.wipe σ vs) where
  ok := rel.ok
  lenA := by rw [wipeE_length]; exact rel.lenA
  lenS := by rw [wipeE_length, wipe_length]; exact rel.lenS
  sl := fun i x e => by
    obtain ⟨h1, h2⟩ := wipeE_get e
    obtain ⟨v, q1, q2⟩ := rel.sl i x h1
    exact ⟨v, by rw [wipe_off h2]; exact q1, q2⟩
  so := fun i x e => by
    obtain ⟨h1, h2⟩ := wipeE_get e
    obtain ⟨a, o, q1, q2, q3, q4⟩ := rel.so i x h1
    exact ⟨a, o, q1, by rw [wipe_off h2]; exact q2, q3, q4⟩
theorem Rel.rest {d d' : Wd} {env e : Env} {σ σ' : St} {vs : List Nat} (rel : Rel G d env σ) (s : StpU d d') (rel' : Rel G d' e σ') (hw : L2.wipe σ' vs = L2.wipe σ vs) (no : noOwn env vs = true) : Rel G d' (restE env e vs) σ where
  ok := rel'.ok
  lenA := by rw [restE_length]; exact rel'.lenA
  lenS := by
    rw [restE_length, ← rel'.lenS, ← wipe_length σ vs, ← wipe_length σ' vs, hw]
  sl := fun i x q => by
    by_cases hi : i ∈ vs
    · have hl : i < e.length := by
        have := (List.getElem?_eq_some_iff.mp q).1
        rwa [restE_length] at this
      rw [restE_in hi hl] at q
      have q' : env[i]? = some (some (.v x)) := by
        cases h : env[i]? with
        | none => rw [h] at q; simp at q
        | some y => rw [h] at q; simp at q; rw [q]
      obtain ⟨v, h1, h2⟩ := rel.sl i x q'
      exact ⟨v, h1, s.rp h2⟩
    · rw [restE_out hi] at q
      obtain ⟨v, h1, h2⟩ := rel'.sl i x q
      exact ⟨v, by rw [← wipe_off hi, ← hw, wipe_off hi]; exact h1, h2⟩
  so := fun i x q => by
    by_cases hi : i ∈ vs
    · have hl : i < e.length := by
        have := (List.getElem?_eq_some_iff.mp q).1
        rwa [restE_length] at this
      rw [restE_in hi hl] at q
      have q' : env[i]? = some (some (.own x)) := by
        cases h : env[i]? with
        | none => rw [h] at q; simp at q
        | some y => rw [h] at q; simp at q; rw [q]
      exact absurd q' (noOwn_at no hi)
    · rw [restE_out hi] at q
      obtain ⟨a, o, h1, h2, h3, h4⟩ := rel'.so i x q
      exact ⟨a, o, h1, by rw [← wipe_off hi, ← hw, wipe_off hi]; exact h2, h3, h4⟩
theorem noOwn_rest {env e : Env} {vs us : List Nat} (no : noOwn env vs = true) (hs : ∀ i ∈ us, i ∈ vs) : noOwn (restE env e vs) us = true := by
  induction us with
  | nil => rfl
  | cons v us ih =>
    unfold noOwn
    rw [Bool.and_eq_true]
    refine ⟨?_, ih fun i h => hs i (List.mem_cons_of_mem _ h)⟩
    have hv := hs v List.mem_cons_self
    by_cases hl : v < e.length
    · rw [restE_in hv hl]
      cases h : env[v]? with
      | none => rfl
      | some y =>
        cases y with
        | none => rfl
        | some tv =>
          cases tv with
          | v x => rfl
          | own x => exact absurd h (noOwn_at no hv)
    · rw [List.getElem?_eq_none (by rw [restE_length]; omega)]
end
/-- an object that is owned outside is written -/
theorem Rel.writeO {G : Gv} {d : Wd} {env : Env} {σ : St} (rel : Rel G d env σ) {p : Addr} {o : HO} (hp : d.O p) (hs : Sm o) : Rel G (d.up p o) env σ := by
  have hR : (d.up p o).R = d.R := msk_upd (.inr (.inl hp))
  have hA : ∀ a, some a ∈ d.A → a ≠ p := fun a h e => rel.ok.dOA p hp (e ▸ h)
  refine ⟨⟨rel.ok.dWO, rel.ok.dWA, rel.ok.dOA, rel.ok.inj, fun b z => upd_ne_none (rel.ok.al b z), fun b z => ?_, fun b u e => ?_⟩, rel.lenA, rel.lenS, fun i x e => ?_, fun i x e => ?_⟩
  · obtain ⟨u, e, q⟩ := rel.ok.wl b z
    exact ⟨u, by show upd d.H p o b = some u; rw [upd_ne (fun y => rel.ok.dWO b z (by rw [y]; exact hp))]; exact e, q⟩
  · have e : upd d.H p o b = some u := e
    by_cases hb : b = p
    · subst hb; rw [upd_same] at e; cases e; exact hs
    · rw [upd_ne hb] at e; exact rel.ok.sm b u e
  · rw [hR]
    exact rel.sl i x e
  · obtain ⟨a, u, h1, h2, h3, h4⟩ := rel.so i x e
    exact ⟨a, u, h1, h2, by show upd d.H p o a = some u; rw [upd_ne (hA a (List.mem_iff_getElem?.mpr ⟨i, h1⟩))]; exact h3, by rw [hR]; exact h4⟩
section
variable {X : Cx} {G : Gv} {k : Nat}
theorem comp_run {J : It} {xs : List PV} {vs : List Nat} {gw : GW} {tw : TW} {m : OW} {ts : List Nat} (hsub : ∀ i ∈ ts, i ∈ vs) {σ : St} {d1 : Wd} {e0 : Env} {Qp : List PV → Env → Prop} {Qd : Hp → Prop} {D : Addr} (rel1 : Rel G d1 e0 σ) (Y : Yields G J xs d1) (hD : d1.H D = none) (hz : xs.length ≤ sizeLine) (no : noOwn e0 vs = true)
    (h : wComp vs gw tw m xs [] e0 Qp) (q : ∀ acc e dd acv, Qp acc e → StpW d1 dd → (∀ b, dd.O b ↔ d1.O b ∨ b = D) → Rel G dd e σ → dd.H D = some (.lst acv) → Rps G dd.W dd.R acv acc → Qd dd.H) :
    ∃ W : Nat → Nat → Hp → Prop, (∃ m, W 0 m (upd d1.H D (.lst []))) ∧ ∀ i m' H, W i m' H → (J.stop i H ∧ Qd H) ∨ (J.go i H ∧ ∃ Nx : Hp → Prop, (∀ H', Nx H' → ∃ m2, m2 < m' ∧ W (i + 1) m2 H') ∧
      ∀ x H', J.yld i H x H' → tSG G ts gw x (wipe σ vs) H' fun σ2 H2 => wipe σ2 vs = wipe σ vs ∧ tST G tw σ2 H2 fun b H3 =>
        if b = true then tSO G m σ2 H3 fun y H4 => ∃ acc, H4 D = some (.lst acc) ∧ acc.length < sizeLine ∧ Nx (upd H4 D (.lst (acc ++ [y]))) else Nx H3) := by
  let Iv : Nat → Nat → Hp → Prop := fun i m' H => m' = xs.length - i ∧ i ≤ xs.length ∧ ∃ (dd : Wd) (e : Env) (acc : List PV) (acv : List V), dd.H = H ∧ StpW d1 dd ∧ (∀ b, dd.O b ↔ d1.O b ∨ b = D) ∧ Rel G dd e σ ∧ noOwn e vs = true ∧ dd.H D = some (.lst acv) ∧ Rps G dd.W dd.R acv acc ∧ acv.length ≤ i ∧ wComp vs gw tw m (xs.drop i) acc e Qp
  refine ⟨Iv, ⟨xs.length, by simp [Iv] <;> omega, Nat.zero_le _, (d1.up D (.lst [])).add D, e0, [], [], rfl, ?_, fun b => Iff.rfl, rel1.addO hD (Nat.zero_le _), no, upd_same, .nil, Nat.le_refl _, h⟩, ?_⟩
  · have s := Stp.up (o := .lst []) hD
    exact ⟨s.keep, s.al, s.w1, s.w2, s.a2, fun b z => z.elim .inl fun z => .inr (by rw [z]; exact hD)⟩
  rintro i m' H ⟨rfl, hi, dd, e, acc, acv, rfl, sw, hO, rel, no, hDd, ra, hlen, hw⟩
  by_cases hlt : i < xs.length
  · refine .inr ⟨Y.go dd i sw.u rel.ok hlt, fun H' => Iv (i + 1) (xs.length - (i + 1)) H', fun H' n => ⟨_, by omega, n⟩, fun v H' hy => ?_⟩
    obtain ⟨x, hx, rs⟩ := Y.yld dd i v H' sw.u rel.ok hlt hy
    obtain ⟨d3, e3, s3, p3⟩ := rs.post rel
    subst e3
    obtain ⟨rel3, r3⟩ := p3.frz
    have hdr : xs.drop i = x :: xs.drop (i + 1) := by
      rw [List.drop_eq_getElem_cons hlt]
      congr 1
      rw [List.getElem?_eq_getElem hlt] at hx
      exact Option.some.inj hx
    rw [hdr] at hw
    -- what holds of D while the turn goes
    have hDO : dd.O D := (hO D).mpr (.inr rfl)
    have keepD : ∀ {d' : Wd}, Stp dd d' → d'.H D = some (.lst acv) := fun {d'} s => s.keep D _ hDd (fun z => rel.ok.dWO D z hDO) (rel.ok.dOA D hDO)
    refine ⟨d3, wipeE e vs, x, _, rfl, rel3.wipe vs, r3, hw, fun e4 σ4 d4 k4 s4 rel4 o4 => ⟨wipe_offEq o4 hsub, d4, e4, _, rfl, rel4, k4, fun b e5 d5 k5 s5 rel5 => ?_⟩⟩
    have w4 : wipe σ4 vs = wipe σ vs := wipe_offEq o4 hsub
    have s35 : Stp dd d5 := s3.trans (s4.trans s5)
    cases b with
    | false =>
      have hr := rel.rest s35.u rel5 w4 no
      exact ⟨rfl, hlt, d5, _, acc, acv, rfl, sw.trans s35.w, fun b => by rw [s35.O]; exact hO b, hr, noOwn_rest no fun _ z => z, keepD s35, s35.rps ra, Nat.le_succ_of_le hlen, k5⟩
    | true =>
      refine ⟨d5, e5, _, rfl, rel5, k5, fun tv e6 y d6 k6 s6 p6 => ?_⟩
      obtain ⟨rel6, r6⟩ := p6.frz
      have s36 : Stp dd d6 := s35.trans s6
      have hr := rel.rest s36.u rel6 w4 no
      have hD6 : d6.O D := by rw [s36.O]; exact hDO
      have hla : acv.length < sizeLine := by omega
      have hsm : Sm (.lst (acv ++ [y])) := by show (acv ++ [y]).length ≤ sizeLine; simp; omega
      refine ⟨acv, keepD s36, hla, rfl, hlt, d6.up D (.lst (acv ++ [y])), _, acc ++ [tv.pv], acv ++ [y], rfl, ?_, fun b => by show d6.O b ↔ _; rw [s36.O]; exact hO b, hr.writeO hD6 hsm, noOwn_rest no fun _ z => z, upd_same, ?_, by simp; omega, k6⟩
      · have s := sw.trans s36.w
        exact ⟨fun b o hb hw ha => by show upd d6.H D _ b = some o; rw [upd_ne (ne_of_none hb hD)]; exact s.keep b o hb hw ha, fun b hb => upd_ne_none (s.al b hb), s.w1, s.w2, s.a2, s.o2⟩
      · have hR : (d6.up D (.lst (acv ++ [y]))).R = d6.R := msk_upd (.inr (.inl hD6))
        rw [hR]
        exact (s36.rps ra).append (.one r6)
  · have hl : i = xs.length := by omega
    subst hl
    rw [List.drop_length] at hw
    exact .inl ⟨Y.stop dd sw.u rel.ok, q acc e dd acv hw sw hO rel hDd ra⟩
def tTrue : TW := fun env Q => Q true env
theorem st_nil {X : Cx} : PTs X [] (tST G tTrue) := ⟨fun pins s σ H Q I ⟨d, env, Qp, hH, rel, h, q⟩ => by
  subst hH
  exact pts_nil.run pins s σ d.H Q I (q true env d h (Stp.refl d) rel)⟩
theorem st_one {X : Cx} {c : Expr} {t : TW} (h : SV X G c t) : PTs X [c] (tST G t) := pts_one h
theorem so_comp {elt tg iter : Expr} {ifs : List Expr} {scope : Scope} {own : List (Str × Nat)} {pos : Pos} {w : IW} {ts : List Nat} {gw : GW} {tw : TW} {m : OW} (cx : CxOk X G k) (hi : SI X G tg iter w) (ok : BlkOk X.N X.env.scope scope own)
    (hg : ∀ (s : Shared) (H : Hp) (C : Addr) (cl : List (Str × Addr)) (fp : List Addr), SG (X.blk s H scope (compEnvC scope cl C X.env) fp) G tg ts gw) (ht : ∀ (s : Shared) (H : Hp) (C : Addr) (cl : List (Str × Addr)) (fp : List Addr), PTs (X.blk s H scope (compEnvC scope cl C X.env) fp) ifs (tST G tw))
    (he : ∀ (s : Shared) (H : Hp) (C : Addr) (cl : List (Str × Addr)) (fp : List Addr), SO (X.blk s H scope (compEnvC scope cl C X.env) fp) G elt m) (hs : ∀ x, foldedSetIterable iter X.env x = pure x) (hsub : ∀ i ∈ ts, i ∈ own.map (·.2)) :
    SO X G (.ListComp elt [⟨tg, iter, ifs, 0⟩] scope pos) (oComp (own.map (·.2)) w gw tw m) :=
  PE.imp (pe_lc cx.calm cx.nd hi ok hg ht he hs) fun σ H Q ⟨d, env, Qp, hH, rel, h, q⟩ => ⟨d, env, _, hH, rel, h, fun xs e d1 J k1 s1 rel1 Y D hD =>
    comp_run hsub rel1 Y hD k1.1 k1.2.1 k1.2.2 fun acc e2 dd acv k2 sw hO rel2 hDd ra => by
      have hdd : ({ dd with O := d1.O } : Wd).add D = dd := by
        have : (fun b => d1.O b ∨ b = D) = dd.O := funext fun b => propext (hO b).symm
        show ({ dd with O := fun b => d1.O b ∨ b = D } : Wd) = dd
        rw [this]
      have s2 : Stp d1 { dd with O := d1.O } := ⟨rfl, sw.keep, sw.al, sw.w1, sw.w2, sw.a2⟩
      refine q (.own (.lst acc)) e2 (.ref D) { dd with O := d1.O } k2 (s1.trans s2) (.own (o := .lst acv) (s1.w.un hD) (fun z => ?_) (by rw [hdd]; exact rel2) hDd (by rw [hdd]; exact .lst ra))
      rcases z with z | z | z
      · exact rel2.ok.dWO D z ((hO D).mpr (.inr rfl))
      · exact rel1.ok.al D (.inr (.inl z)) hD
      · exact rel2.ok.dOA D ((hO D).mpr (.inr rfl)) z⟩
end
end IL

/-! IL5: statements. -/
namespace IL
open PySem PySem.Spec PyProof.Rows L2

structure EndsW where
  nx : Env → Prop
  rt : TV → Prop
  bk : Env → Prop
  ct : Env → Prop
abbrev SW := EndsW → Env → Prop
/-- what leaves a def -/
inductive RTx (G : Gv) (d d' : Wd) : TV → V → Prop
  | v {x : PV} {v : V} : Rp G d'.W d'.R v x → RTx G d d' (.v x) v
  | own {x : PV} {p : Addr} {o : HO} : (d.H p = none ∨ some p ∈ d.A) → ¬ d'.D p → d'.H p = some o → RpC G d'.W (d'.add p).R o x → RTx G d d' (.own x) (.ref p)
theorem RTx.from {G : Gv} {c d d' : Wd} (s : Stp c d) {tv : TV} {v : V} (h : RTx G d d' tv v) : RTx G c d' tv v := by
  cases h with
  | v r => exact .v r
  | own hp hn e r =>
    refine .own ?_ hn e r
    rcases hp with hp | hp
    · exact .inl (s.w.un hp)
    · exact (s.a2 _ hp).symm
structure Fin (G : Gv) (d : Wd) (P : EndsW) (D : Ends) : Prop where
  nx : ∀ e σ' d', P.nx e → Stp d d' → Rel G d' e σ' → D.nx σ' d'.H
  rt : ∀ tv v d', P.rt tv → Stp d d' → d'.A = [] → d'.Ok G → RTx G d d' tv v → D.rt v d'.H
  bk : ∀ e σ' d', P.bk e → Stp d d' → Rel G d' e σ' → D.bk σ' d'.H
  ct : ∀ e σ' d', P.ct e → Stp d d' → Rel G d' e σ' → D.ct σ' d'.H
theorem Fin.from {G : Gv} {c d : Wd} {P : EndsW} {D : Ends} (f : Fin G c P D) (s : Stp c d) : Fin G d P D :=
  ⟨fun e σ' d' h t r => f.nx e σ' d' h (s.trans t) r, fun tv v d' h t hA ok r => f.rt tv v d' h (s.trans t) hA ok (r.from s), fun e σ' d' h t r => f.bk e σ' d' h (s.trans t) r, fun e σ' d' h t r => f.ct e σ' d' h (s.trans t) r⟩
def tSS (G : Gv) (w : SW) : TS := fun D σ H => ∃ (d : Wd) (env : Env) (P : EndsW), d.H = H ∧ Rel G d env σ ∧ w P env ∧ Fin G d P D
abbrev SS (X : Cx) (G : Gv) (st : Stmt) (w : SW) : Prop := PS X st (tSS G w)
abbrev SSs (X : Cx) (G : Gv) (sts : List Stmt) (w : SW) : Prop := PSs X sts (tSS G w)

def sSeq (a b : SW) : SW := fun P e => a { P with nx := fun e2 => b P e2 } e
def sNext : SW := fun P e => P.nx e
def sBrk : SW := fun P e => P.bk e
def sCnt : SW := fun P e => P.ct e
def sNever : SW := fun _ _ => False
def sDrop (m : OW) : SW := fun P e => m e fun _ e2 => P.nx e2
def sRet (m : OW) : SW := fun P e => m e fun tv _ => P.rt tv
def sRetN : SW := fun P _ => P.rt (.v .non)
/-- return x: what the slot owns goes out -/
def sRetV (i : Nat) : SW := fun P e => match e[i]? with
  | some (some tv) => P.rt tv
  | _ => False
def sIf (t : TW) (a b : SW) : SW := fun P e => t e fun c e2 => if c = true then a P e2 else b P e2
def sSet (i : Nat) (m : OW) : SW := fun P e => m e fun tv e2 => P.nx (e2.set i (some tv))
def sTgt (g : GW) (m : OW) : SW := fun P e => m e fun tv e2 => g tv.pv e2 P.nx
def wFor (g : GW) (b : SW) : List PV → SW
  | [], P, e => P.nx e
  | x :: xs, P, e => g x e fun e2 => b { nx := fun e3 => wFor g b xs P e3, rt := P.rt, bk := P.nx, ct := fun e3 => wFor g b xs P e3 } e2
def sFor (w : IW) (g : GW) (b : SW) : SW := fun P e => w e fun xs e2 => wFor g b xs P e2
def wWhile (t : TW) (b : SW) : Nat → SW
  | 0, _, _ => False
  | n + 1, P, e => t e fun c e2 => if c = true then b { nx := fun e3 => wWhile t b n P e3, rt := P.rt, bk := P.nx, ct := fun e3 => wWhile t b n P e3 } e2 else P.nx e2
def sWhile (t : TW) (b : SW) : SW := fun P e => ∃ n, wWhile t b n P e

section
variable {X : Cx} {G : Gv} {k : Nat}
theorem Ok_dropA {d : Wd} (h : d.Ok G) : Wd.Ok G { d with A := [] } :=
  ⟨h.dWO, fun b _ y => List.not_mem_nil y, fun b _ y => List.not_mem_nil y, (fun i j b e => by cases i <;> cases e), fun b z => h.al b (z.elim .inl fun z => .inr (z.elim .inl fun z => absurd z List.not_mem_nil)), h.wl, h.sm⟩
theorem Stp_dropA {c d : Wd} (s : Stp c d) : Stp c { d with A := [] } := ⟨s.O, s.keep, s.al, s.w1, s.w2, fun b z => absurd z List.not_mem_nil⟩
theorem same_dropA {d : Wd} : Same d.R ({ d with A := [] } : Wd).R := fun b o h => by
  obtain ⟨hd, hb⟩ := msk_some.mp h
  refine msk_some.mpr ⟨fun z => hd ?_, hb⟩
  rcases z with z | z | z
  · exact .inl z
  · exact .inr (.inl z)
  · exact absurd z List.not_mem_nil
theorem same_dropA_add {d : Wd} {p : Addr} : Same (d.add p).R (({ d with A := [] } : Wd).add p).R := fun b o h => by
  obtain ⟨hd, hb⟩ := msk_some.mp h
  refine msk_some.mpr ⟨fun z => hd ?_, hb⟩
  rcases z with z | z | z
  · exact .inl z
  · exact .inr (.inl z)
  · exact absurd z List.not_mem_nil
theorem Post.out {d d' : Wd} {e : Env} {σ : St} {tv : TV} {v : V} (s : Stp d d') (p : Post G d d' e σ tv v) : ∃ dF : Wd, dF.H = d'.H ∧ Stp d dF ∧ dF.A = [] ∧ dF.Ok G ∧ RTx G d dF tv v := by
  cases p with
  | v rel r => exact ⟨{ d' with A := [] }, rfl, Stp_dropA s, rfl, Ok_dropA rel.ok, .v (r.mono (fun _ z => z) same_dropA)⟩
  | @own x p o hp hn rel e r =>
    have ok : d'.Ok G := (rel.unadd).ok
    refine ⟨{ d' with A := [] }, rfl, Stp_dropA s, rfl, Ok_dropA ok, .own (.inl hp) (fun z => hn ?_) e (r.mono (fun _ z => z) same_dropA_add)⟩
    rcases z with z | z | z
    · exact .inl z
    · exact .inr (.inl z)
    · exact absurd z List.not_mem_nil
theorem ss_next_pass {pos : Pos} : SS X G (.Pass pos) sNext := PS.imp ps_pass fun D σ H ⟨d, env, P, hH, rel, h, f⟩ => by subst hH; exact f.nx env σ d h (Stp.refl d) rel
theorem ss_brk {pos : Pos} : SS X G (.Break pos) sBrk := PS.imp ps_break fun D σ H ⟨d, env, P, hH, rel, h, f⟩ => by subst hH; exact f.bk env σ d h (Stp.refl d) rel
theorem ss_cnt {pos : Pos} : SS X G (.Continue pos) sCnt := PS.imp ps_continue fun D σ H ⟨d, env, P, hH, rel, h, f⟩ => by subst hH; exact f.ct env σ d h (Stp.refl d) rel
theorem ss_never {st : Stmt} : SS X G st sNever := PS.imp ps_never fun D σ H ⟨d, env, P, hH, rel, h, f⟩ => h
theorem sss_never {st : List Stmt} : SSs X G st sNever := PSs.imp pss_never fun D σ H ⟨d, env, P, hH, rel, h, f⟩ => h
theorem sss_nil : SSs X G [] sNext := PSs.imp pss_nil fun D σ H ⟨d, env, P, hH, rel, h, f⟩ => by subst hH; exact f.nx env σ d h (Stp.refl d) rel
theorem sss_cons {st : Stmt} {rest : List Stmt} {a b : SW} (h1 : SS X G st a) (h2 : SSs X G rest b) : SSs X G (st :: rest) (sSeq a b) :=
  PSs.imp (pss_cons h1 h2) fun D σ H ⟨d, env, P, hH, rel, h, f⟩ => ⟨d, env, _, hH, rel, h, ⟨fun e σ' d' k s r => ⟨d', e, P, rfl, r, k, f.from s⟩, f.rt, f.bk, f.ct⟩⟩
theorem noSwapN {e : Expr} {l : Nat} {env : PySem.Env} (h : (match e with | .ListComp .. => true | .SetComp .. => true | .DictComp .. => true | _ => false) = false) {t : Option Expr} : swapsWith e t l env = pure false := by
  cases e <;> first | rfl | cases h
def isCompr : Expr → Bool
  | .ListComp .. => true
  | .SetComp .. => true
  | .DictComp .. => true
  | _ => false
theorem noSwap {e : Expr} {l : Nat} {env : PySem.Env} {t : Option Expr} (h : isCompr e = false) : swapsWith e t l env = pure false := by
  cases e <;> first | rfl | cases h
theorem ss_drop {e : Expr} {pos : Pos} {m : OW} (he : SO X G e m) (h : isCompr e = false) : SS X G (.Expr e pos) (sDrop m) :=
  PS.imp (ps_expr he (hs := noSwap h)) fun D σ H ⟨d, env, P, hH, rel, h, f⟩ => ⟨d, env, _, hH, rel, h, fun tv e v d' k s p => f.nx e σ d' k s p.frz.1⟩
theorem ss_ret {e : Expr} {pos : Pos} {m : OW} (he : SO X G e m) : SS X G (.Return (some e) pos) (sRet m) :=
  PS.imp (ps_ret he) fun D σ H ⟨d, env, P, hH, rel, h, f⟩ => ⟨d, env, _, hH, rel, h, fun tv e v d' k s p => by
    obtain ⟨dF, e1, s1, hA, ok, r⟩ := p.out s
    rw [← e1]
    exact f.rt tv v dF k s1 hA ok r⟩
theorem ss_retN {pos : Pos} : SS X G (.Return none pos) sRetN :=
  PS.imp ps_retN fun D σ H ⟨d, env, P, hH, rel, h, f⟩ => by
    subst hH
    exact f.rt _ .non { d with A := [] } h (Stp_dropA (Stp.refl d)) rfl (Ok_dropA rel.ok) (.v .non)
theorem ss_retV {e : Expr} {i : Nat} {pos : Pos} (he : PE X e (tVar i)) : SS X G (.Return (some e) pos) (sRetV i) :=
  PS.imp (ps_ret he) fun D σ H ⟨d, env, P, hH, rel, h, f⟩ => by
    subst hH
    have h : (match env[i]? with | some (some tv) => P.rt tv | _ => False) := h
    split at h
    · rename_i tv hi
      cases tv with
      | v x =>
        obtain ⟨v, h1, h2⟩ := rel.sl i x hi
        exact tVar_run h1 (f.rt _ v { d with A := [] } h (Stp_dropA (Stp.refl d)) rfl (Ok_dropA rel.ok) (.v (h2.mono (fun _ z => z) same_dropA)))
      | own x =>
        obtain ⟨a, o, h1, h2, h3, h4⟩ := rel.so i x hi
        have hm : some a ∈ d.A := List.mem_iff_getElem?.mpr ⟨i, h1⟩
        refine tVar_run h2 (f.rt _ _ { d with A := [] } h (Stp_dropA (Stp.refl d)) rfl (Ok_dropA rel.ok) (.own (o := o) (.inr hm) (fun z => ?_) h3 (h4.mono (fun _ z => z) fun b u e => ?_)))
        · rcases z with z | z | z
          · exact rel.ok.dWA a z hm
          · exact rel.ok.dOA a z hm
          · exact absurd z List.not_mem_nil
        · obtain ⟨hd, hb⟩ := msk_some.mp e
          refine msk_some.mpr ⟨fun z => hd ?_, hb⟩
          rcases z with z | (z | z) | z
          · exact .inl z
          · exact .inr (.inl z)
          · subst z; exact .inr (.inr hm)
          · exact absurd z List.not_mem_nil
    · exact h.elim
theorem ss_if {c : Expr} {a b : List Stmt} {t : TW} {u v : SW} {pos : Pos} (hc : SV X G c t) (ha : SSs X G a u) (hb : SSs X G b v) : SS X G (.If c a b pos) (sIf t u v) :=
  PS.imp (ps_if hc ha hb) fun D σ H ⟨d, env, P, hH, rel, h, f⟩ => ⟨d, env, _, hH, rel, h, fun c e d' k s r => by
    cases c with
    | true => exact ⟨d', e, P, rfl, r, k, f.from s⟩
    | false => exact ⟨d', e, P, rfl, r, k, f.from s⟩⟩
theorem Post.stored {d d' : Wd} {e : Env} {σ : St} {tv : TV} {v : V} {i : Nat} (s : Stp d d') (p : Post G d d' e σ tv v) : ∃ d2 : Wd, d2.H = d'.H ∧ Stp d d2 ∧ Rel G d2 (e.set i (some tv)) (σ.set i (some v)) := by
  cases p with
  | v rel r => exact ⟨d'.drop i, rfl, s.trans (Stp.drop d' i), rel.setv r⟩
  | own hp hn rel e r => exact ⟨d'.take i _, rfl, s.take hp, rel.seto hn e r⟩
theorem set_run {d : Wd} {env : Env} {σ : St} {P : EndsW} {D : Ends} {m : OW} {i : Nat} (rel : Rel G d env σ) (h : sSet i m P env) (f : Fin G d P D) : tAsg (tSO G m) (gName i) D σ d.H :=
  ⟨d, env, _, rfl, rel, h, fun tv e v d' k s p => by
    obtain ⟨d2, e2, s2, r2⟩ := p.stored s (i := i)
    show D.nx (σ.set i (some v)) d'.H
    rw [← e2]
    exact f.nx _ _ d2 k s2 r2⟩
theorem ss_set {i : Nat} {x : Str} {e : Expr} {m : OW} {pos pos' : Pos} (cx : CxOk X G k) (hi : X.N[i]? = some x) (hx : Loc X.env.scope x) (he : SO X G e m) (hs : swapsWith e (some (.Name x pos')) pos.line X.env = pure false) (hf : X.fn x = true ∨ X.env.scope.names.lookup x = some .local) :
    SS X G (.Assign [.Name x pos'] e pos) (sSet i m) :=
  PS.imp (ps_set cx.nd hi hx he (hs := hs) (hf := hf)) fun D σ H ⟨d, env, P, hH, rel, h, f⟩ => by
    subst hH
    exact set_run rel h f
theorem ss_tgt {tg e : Expr} {ts : List Nat} {g : GW} {m : OW} {pos : Pos} (he : SO X G e m) (hg : SG X G tg ts g) (hs : isCompr e = false) (hw : swappedStores [tg] e X.env = pure none) (ht : isStar tg = false) : SS X G (.Assign [tg] e pos) (sTgt g m) :=
  PS.imp (ps_asg he hg (hs := noSwap hs) (hw := hw) (h1 := by cases tg <;> first | rfl | cases ht)) fun D σ H ⟨d, env, P, hH, rel, h, f⟩ => ⟨d, env, _, hH, rel, h, fun tv e v d' k s p => ⟨d', e, tv.pv, P.nx, rfl, p.frz.1, p.frz.2, k, fun e2 σ2 d2 k2 s2 r2 _ => f.nx e2 σ2 d2 k2 (s.trans s2) r2⟩⟩
/-- a comprehension into a name of the def's own -/
theorem ss_setComp {i : Nat} {y : Str} {py : Pos} {elt tg iter : Expr} {ifs : List Expr} {scope : Scope} {own : List (Str × Nat)} {pos spos : Pos} {w : IW} {ts : List Nat} {gw : GW} {tw : TW} {m : OW} (cx : CxOk X G k) (hy : X.N[i]? = some y) (hyl : X.env.scope.names.lookup y = some .local)
    (hsw : swapsWith (.ListComp elt [⟨tg, iter, ifs, 0⟩] scope pos) (some (.Name y py)) spos.line X.env = pure true) (hi : SI X G tg iter w) (ok : BlkOk X.N X.env.scope scope own)
    (hg : ∀ (s : Shared) (H : Hp) (C : Addr) (cl : List (Str × Addr)) (fp : List Addr), SG (X.blk s H scope (compEnvC scope cl C X.env) fp) G tg ts gw) (ht : ∀ (s : Shared) (H : Hp) (C : Addr) (cl : List (Str × Addr)) (fp : List Addr), PTs (X.blk s H scope (compEnvC scope cl C X.env) fp) ifs (tST G tw))
    (he : ∀ (s : Shared) (H : Hp) (C : Addr) (cl : List (Str × Addr)) (fp : List Addr), SO (X.blk s H scope (compEnvC scope cl C X.env) fp) G elt m) (hs : ∀ x, foldedSetIterable iter X.env x = pure x) (hsub : ∀ i ∈ ts, i ∈ own.map (·.2)) :
    SS X G (.Assign [.Name y py] (.ListComp elt [⟨tg, iter, ifs, 0⟩] scope pos) spos) (sSet i (oComp (own.map (·.2)) w gw tw m)) :=
  PS.imp (ps_setLc cx.calm cx.nd hy hyl hsw hi ok hg ht he hs) fun D σ H ⟨d, env, P, hH, rel, h, f⟩ => ⟨d, env, _, hH, rel, h, fun xs e d1 J k1 s1 rel1 Y Da hD =>
    comp_run hsub rel1 Y hD k1.1 k1.2.1 k1.2.2 fun acc e2 dd acv k2 sw hO rel2 hDd ra => by
      have hdd : ({ dd with O := d1.O } : Wd).add Da = dd := by
        have : (fun b => d1.O b ∨ b = Da) = dd.O := funext fun b => propext (hO b).symm
        show ({ dd with O := fun b => d1.O b ∨ b = Da } : Wd) = dd
        rw [this]
      have s2 : Stp d1 { dd with O := d1.O } := ⟨rfl, sw.keep, sw.al, sw.w1, sw.w2, sw.a2⟩
      have po : Post G d { dd with O := d1.O } e2 σ (.own (.lst acc)) (.ref Da) := .own (o := .lst acv) (s1.w.un hD) (fun z => by
        rcases z with z | z | z
        · exact rel2.ok.dWO Da z ((hO Da).mpr (.inr rfl))
        · exact rel1.ok.al Da (.inr (.inl z)) hD
        · exact rel2.ok.dOA Da ((hO Da).mpr (.inr rfl)) z) (by rw [hdd]; exact rel2) hDd (by rw [hdd]; exact .lst ra)
      obtain ⟨d3, e3, s3, r3⟩ := po.stored (s1.trans s2) (i := i)
      have e4 : dd.H = d3.H := e3.symm
      rw [e4]
      exact f.nx _ _ d3 k2 s3 r3⟩
theorem PassesOwn_never (cx : CxOk X G k) : PassesOwn (model X.prog X.w) X.A X.env X.xe := by
  rw [cx.xe]
  exact PassesOwn.never
theorem for_run {J : It} {gw : GW} {b : SW} {ts : List Nat} {P : EndsW} {D : Ends} {xs : List PV} {σ : St} {d1 : Wd} {e0 : Env} (rel1 : Rel G d1 e0 σ) (Y : Yields G J xs d1) (h : wFor gw b xs P e0) (f : Fin G d1 P D) :
    ∃ W : Nat → Nat → St → Hp → Prop, (∃ m, W 0 m σ d1.H) ∧ ∀ i m σ H, W i m σ H → (J.stop i H ∧ D.nx σ H) ∨ (J.go i H ∧ ∃ N : St → Hp → Prop, (∀ σ' H', N σ' H' → ∃ m', m' < m ∧ W (i + 1) m' σ' H') ∧
      ∀ x H', J.yld i H x H' → tSG G ts gw x σ H' fun σ2 H2 => tSS G b { D with nx := N, ct := N, bk := D.nx } σ2 H2) := by
  let Iv : Nat → Nat → St → Hp → Prop := fun i m' σ' H => m' = xs.length - i ∧ i ≤ xs.length ∧ ∃ (dd : Wd) (e : Env), dd.H = H ∧ Stp d1 dd ∧ Rel G dd e σ' ∧ wFor gw b (xs.drop i) P e
  refine ⟨Iv, ⟨xs.length, by simp [Iv] <;> omega, Nat.zero_le _, d1, e0, rfl, Stp.refl d1, rel1, h⟩, ?_⟩
  rintro i m' σ' H ⟨rfl, hi, dd, e, rfl, sd, rel, hw⟩
  by_cases hlt : i < xs.length
  · refine .inr ⟨Y.go dd i sd.w.u rel.ok hlt, fun σ2 H' => Iv (i + 1) (xs.length - (i + 1)) σ2 H', fun σ2 H' n => ⟨_, by omega, n⟩, fun v H' hy => ?_⟩
    obtain ⟨x, hx, rs⟩ := Y.yld dd i v H' sd.w.u rel.ok hlt hy
    obtain ⟨d3, e3, s3, p3⟩ := rs.post rel
    subst e3
    obtain ⟨rel3, r3⟩ := p3.frz
    have hdr : xs.drop i = x :: xs.drop (i + 1) := by
      rw [List.drop_eq_getElem_cons hlt]
      congr 1
      rw [List.getElem?_eq_getElem hlt] at hx
      exact Option.some.inj hx
    rw [hdr] at hw
    refine ⟨d3, e, x, _, rfl, rel3, r3, hw, fun e4 σ4 d4 k4 s4 rel4 o4 => ⟨d4, e4, _, rfl, rel4, k4, ?_⟩⟩
    have s14 : Stp d1 d4 := sd.trans (s3.trans s4)
    exact ⟨fun e5 σ5 d5 k5 s5 r5 => ⟨rfl, hlt, d5, e5, rfl, s14.trans s5, r5, k5⟩, fun tv v d5 k5 s5 hA ok5 r5 => (f.from s14).rt tv v d5 k5 s5 hA ok5 r5, fun e5 σ5 d5 k5 s5 r5 => f.nx e5 σ5 d5 k5 (s14.trans s5) r5, fun e5 σ5 d5 k5 s5 r5 => ⟨rfl, hlt, d5, e5, rfl, s14.trans s5, r5, k5⟩⟩
  · have hl : i = xs.length := by omega
    subst hl
    rw [List.drop_length] at hw
    exact .inl ⟨Y.stop dd sd.w.u rel.ok, f.nx e σ' dd hw sd rel⟩
theorem ss_for {tg iter : Expr} {body : List Stmt} {w : IW} {ts : List Nat} {gw : GW} {b : SW} {pos : Pos} (cx : CxOk X G k) (hi : SI X G tg iter w) (hg : SG X G tg ts gw) (hb : SSs X G body b) (hs : ∀ x, foldedSetIterable iter X.env x = pure x) : SS X G (.For tg iter body [] pos) (sFor w gw b) :=
  PS.imp (ps_for (PassesOwn_never cx) cx.calm hi hg hb hs) fun D σ H ⟨d, env, P, hH, rel, h, f⟩ => ⟨d, env, _, hH, rel, h, fun xs e d1 J k1 s1 rel1 Y => for_run rel1 Y k1 (f.from s1)⟩
theorem ss_while {c : Expr} {body : List Stmt} {t : TW} {b : SW} {pos : Pos} (cx : CxOk X G k) (hc : SV X G c t) (hb : SSs X G body b) : SS X G (.While c body [] pos) (sWhile t b) :=
  PS.imp (ps_while (PassesOwn_never cx) hc hb) fun D σ H ⟨d, env, P, hH, rel, ⟨n, h⟩, f⟩ => by
    subst hH
    refine ⟨fun m σ' H' => ∃ (dd : Wd) (e : Env), dd.H = H' ∧ Stp d dd ∧ Rel G dd e σ' ∧ wWhile t b m P e, ⟨n, d, env, rfl, Stp.refl d, rel, h⟩, ?_⟩
    rintro m σ' H' ⟨dd, e, rfl, sd, re, hw⟩
    cases m with
    | zero => exact hw.elim
    | succ m =>
      refine ⟨dd, e, _, rfl, re, hw, fun c2 e2 d2 k2 s2 r2 => ?_⟩
      cases c2 with
      | false => exact f.nx e2 σ' d2 k2 (sd.trans s2) r2
      | true =>
        refine ⟨fun σ'' H'' => ∃ (dd : Wd) (e : Env), dd.H = H'' ∧ Stp d dd ∧ Rel G dd e σ'' ∧ wWhile t b m P e, fun σ'' H'' q => ⟨m, Nat.lt_succ_self m, q⟩, d2, e2, _, rfl, r2, k2, ?_⟩
        have s12 := sd.trans s2
        exact ⟨fun e5 σ5 d5 k5 s5 r5 => ⟨d5, e5, rfl, s12.trans s5, r5, k5⟩, (f.from s12).rt, fun e5 σ5 d5 k5 s5 r5 => f.nx e5 σ5 d5 k5 (s12.trans s5) r5, fun e5 σ5 d5 k5 s5 r5 => ⟨d5, e5, rfl, s12.trans s5, r5, k5⟩⟩
end
end IL

/-! IL6: a def's promise from its body, names stored side by side, what a slot owns changed. -/
namespace IL
open PySem PySem.Spec PyProof.Rows L2

/-! ### a def -/
def envOf (n : Nat) (xs : List PV) : Env := xs.map (fun x => some (.v x)) ++ List.replicate (n - xs.length) none
def fnW (n : Nat) (b : SW) : FW := fun xs Q => b { nx := fun _ => Q (.v .non), rt := Q, bk := fun _ => False, ct := fun _ => False } (envOf n xs)
/-- the context in which a body is judged -/
structure CC (X : Cx) (G : Gv) (k : Nat) (N : List Str) (sc : Scope) : Prop where
  ok : CxOk X G k
  fn : ∀ x, sc.names.lookup x = some NameKind.cell → X.fn x = true
  N : X.N = N
  sc : X.env.scope = sc
structure Same3 (X : Cx) (P : Program) (w : World) (base : Heap) : Prop where
  P : X.prog = P
  w : X.w = w
  base : X.base = base
theorem fn_ok {P : Program} {w : World} {G : Gv} {base : Heap} {x qual : Str} {pa : Arguments} {body : List Stmt} {sc : Scope} {f : Addr} {fd : FuncData} {N ps : List Str} {k : Nat} {b : SW} (F : FunD G.K x qual pa body sc [] [] f fd) (S : FnScope N ps sc)
    (hb : ∀ X : Cx, CC X G k N sc → Same3 X P w base → SSs X G body b) : FnOk P w G.K G.mg base CX0 (k + 1) f fd ps (spOf G ps.length (fnW N.length b)) := by
  refine F.ok S (fun vs H Q E ⟨d, xs, Qp, _, _, _, r, hl, _⟩ => by rw [r.length, hl]) fun cdv A outer s H vs Q E hr ⟨d, xs, Qp, hA, hH, ok, r, hl, hF, q⟩ => ?_
  have hcc : CC (cxOf CX0 P w G.K G.mg base N qual sc f cdv A outer s H E).nox G k N sc := ⟨⟨rfl, rfl, rfl, S.nd, hr, rfl⟩, fun _ _ => rfl, rfl, rfl⟩
  refine ⟨tSS G b, PSs.nox (hb _ hcc ⟨rfl, rfl, rfl⟩), ?_⟩
  have hN : ps.length ≤ N.length := by
    have := congrArg List.length S.pre
    rw [List.length_take] at this
    omega
  have hv : vs.length = xs.length := r.length
  let d0 : Wd := { d with A := List.replicate N.length none }
  have nm : ∀ b, some b ∉ d0.A := fun b z => by
    have := (List.mem_replicate.mp z).2
    cases this
  have hD : ∀ b, d0.D b ↔ d.D b := fun b => by
    unfold Wd.D
    rw [hA]
    constructor
    · rintro (z | z | z)
      · exact .inl z
      · exact .inr (.inl z)
      · exact absurd z (nm b)
    · rintro (z | z | z)
      · exact .inl z
      · exact .inr (.inl z)
      · exact absurd z List.not_mem_nil
  have hR : d0.R = d.R := msk_congr hD
  have ok0 : d0.Ok G := ⟨ok.dWO, fun b _ => nm b, fun b _ => nm b, fun i j b e => absurd (List.mem_iff_getElem?.mpr ⟨i, e⟩) (nm b), fun b z => ok.al b ((hD b).mp z), ok.wl, ok.sm⟩
  have rel : Rel G d0 (envOf N.length xs) (L2.start N vs) := by
    refine ⟨ok0, by simp [d0, envOf]; omega, by simp [L2.start, envOf]; omega, fun i y e => ?_, fun i y e => ?_⟩
    · unfold envOf at e
      by_cases hi : i < xs.length
      · rw [List.getElem?_append_left (by simpa using hi), List.getElem?_map] at e
        cases hx : xs[i]? with
        | none => rw [hx] at e; cases e
        | some z =>
          rw [hx] at e
          cases e
          obtain ⟨v, h1, h2⟩ := r.get' i hx
          refine ⟨v, ?_, by rw [hR]; exact h2⟩
          unfold L2.start
          rw [List.getElem?_append_left (by simp; omega), List.getElem?_map, h1]
          rfl
      · rw [List.getElem?_append_right (by simp; omega), List.getElem?_replicate] at e
        split at e <;> cases e
    · unfold envOf at e
      by_cases hi : i < xs.length
      · rw [List.getElem?_append_left (by simpa using hi), List.getElem?_map] at e
        cases hx : xs[i]? with
        | none => rw [hx] at e; cases e
        | some z => rw [hx] at e; cases e
      · rw [List.getElem?_append_right (by simp; omega), List.getElem?_replicate] at e
        split at e <;> cases e
  have s0 : ∀ {d' : Wd}, Stp d0 d' → Stp d d' := fun {d'} s => ⟨s.O, fun b o h hw _ => s.keep b o h hw (nm b), s.al, s.w1, s.w2, fun b z => .inr ((s.a2 b z).elim (fun z => absurd z (nm b)) id)⟩
  refine ⟨d0, envOf N.length xs, _, hH, rel, hF, ⟨fun e σ' d' k s r' => ?_, fun tv v d' k s hA' ok' r' => ?_, fun e σ' d' k _ _ => k.elim, fun e σ' d' k _ _ => k.elim⟩⟩
  · exact q _ .non { d' with A := [] } k (Stp_dropA (s0 s)) rfl (Ok_dropA r'.ok) (.v .non)
  · refine q tv v d' k (s0 s) hA' ok' ?_
    cases r' with
    | v h => exact .v h
    | own hp hn e h => exact .own (hp.elim id fun z => absurd z (nm _)) hn e h

/-! ### a, b = x, y with plain names: owned things stay owned -/
def wTmps : List OW → Env → (List TV → Env → Prop) → Prop
  | [], env, K => K [] env
  | m :: ms, env, K => m env fun tv e => wTmps ms e fun tvs e2 => K (tv :: tvs) e2
def setAll : Env → List Nat → List TV → Env
  | e, i :: is, tv :: tvs => setAll (e.set i (some tv)) is tvs
  | e, _, _ => e
def setAllV : St → List Nat → List V → St
  | e, i :: is, v :: vs => setAllV (e.set i (some v)) is vs
  | e, _, _ => e
def sPar (is : List Nat) (ms : List OW) : SW := fun P e => wTmps ms e fun tvs e2 => P.nx (setAll e2 is tvs)
inductive Pend (G : Gv) (d : Wd) : List TV → List V → List Addr → Prop
  | nil : Pend G d [] [] []
  | v {x : PV} {v : V} {tvs : List TV} {vs : List V} {ps : List Addr} : Rp G d.W d.R v x → Pend G d tvs vs ps → Pend G d (.v x :: tvs) (v :: vs) ps
  | own {x : PV} {p : Addr} {o : HO} {tvs : List TV} {vs : List V} {ps : List Addr} : d.O p → p ∉ ps → d.H p = some o → RpC G d.W d.R o x → Pend G d tvs vs ps → Pend G d (.own x :: tvs) (.ref p :: vs) (p :: ps)
section
variable {G : Gv} {σ : St}
theorem tmps_run : ∀ {ms : List OW} {d : Wd} {env : Env} {K : List TV → Env → Prop} {Q : List V → Hp → Prop}, Rel G d env σ → wTmps ms env K →
    (∀ tvs e vs d' ps, K tvs e → StpW d d' → (∀ b, d'.O b ↔ d.O b ∨ b ∈ ps) → (∀ p ∈ ps, d.H p = none) → Rel G d' e σ → Pend G d' tvs vs ps → tvs.length = ms.length → Q vs d'.H) → argsTA G ms σ d.H Q
  | [], d, env, K, Q, rel, h, q => q [] env [] d [] h (Stp.refl d).w (fun b => by simp) (fun p hp => by simp at hp) rel .nil rfl
  | m :: ms, d, env, K, Q, rel, h, q => ⟨d, env, _, rfl, rel, h, fun tv e v d1 k1 s1 p1 => by
    cases p1 with
    | v rel1 r1 =>
      exact tmps_run (ms := ms) rel1 k1 fun tvs e2 vs d2 ps k2 s2 hO hf rel2 pe hl => q _ _ _ d2 ps k2 (s1.w.trans s2) (fun b => by rw [hO b, s1.O]) (fun p hp => s1.w.un (hf p hp)) rel2 (.v (s2.rp r1) pe) (congrArg Nat.succ hl)
    | @own x p o hp hn rel1 e1 r1 =>
      have t := tmps_run (ms := ms) (d := d1.add p) (Q := fun vs H' => Q (.ref p :: vs) H') rel1 k1 fun tvs e2 vs d2 ps k2 s2 hO hf rel2 pe hl => by
        have hps : p ∉ ps := fun z => by
          have := hf p z
          have e1' : (d1.add p).H p = some o := e1
          rw [this] at e1'
          cases e1'
        have sa : StpW d (d1.add p) := ⟨s1.keep, s1.al, s1.w1, s1.w2, s1.a2, fun b z => z.elim (fun z => .inl (by rw [← s1.O]; exact z)) fun z => .inr (by rw [z]; exact hp)⟩
        have hOp : (d1.add p).O p := .inr rfl
        refine q _ _ _ d2 (p :: ps) k2 (sa.trans s2) (fun b => ?_) (fun b hb => ?_) rel2 (.own ((hO p).mpr (.inl hOp)) hps (s2.keep p o e1 (fun z => rel1.ok.dWO p z hOp) (rel1.ok.dOA p hOp)) (r1.mono s2.w1 s2.same) pe) (congrArg Nat.succ hl)
        · rw [hO b]
          show (d1.O b ∨ b = p) ∨ b ∈ ps ↔ _
          rw [s1.O, List.mem_cons, or_assoc]
        · rcases List.mem_cons.mp hb with z | z
          · rw [z]; exact hp
          · exact sa.un (hf b z)
      exact t⟩
theorem Pend.mono {d d' : Wd} (hW : d'.W = d.W) (hH : d'.H = d.H) (hS : Same d.R d'.R) : ∀ {tvs : List TV} {vs : List V} {ps : List Addr}, (∀ p ∈ ps, d.O p → d'.O p) → Pend G d tvs vs ps → Pend G d' tvs vs ps
  | _, _, _, _, .nil => .nil
  | _, _, _, hO, .v r t => .v (by rw [hW]; exact r.mono (fun _ z => z) hS) (t.mono hW hH hS hO)
  | _, _, _, hO, .own h1 h2 h3 h4 t => .own (hO _ (by simp) h1) h2 (by rw [hH]; exact h3) (by rw [hW]; exact h4.mono (fun _ z => z) hS) (t.mono hW hH hS fun p hp => hO p (List.mem_cons_of_mem _ hp))
theorem store_all : ∀ {is : List Nat} {tvs : List TV} {vs : List V} {ps : List Addr} {d : Wd} {e : Env} {σ : St}, Rel G d e σ → Pend G d tvs vs ps → tvs.length = is.length →
    ∃ d' : Wd, d'.H = d.H ∧ d'.W = d.W ∧ (∀ b, d'.O b ↔ d.O b ∧ b ∉ ps) ∧ (∀ b, some b ∈ d'.A → some b ∈ d.A ∨ b ∈ ps) ∧ Rel G d' (setAll e is tvs) (setAllV σ is vs)
  | [], _, _, _, d, e, σ, rel, .nil, _ => ⟨d, rfl, rfl, fun b => by simp, fun b h => .inl h, rel⟩
  | i :: is, _, _, _, d, e, σ, rel, .v r t, hl => by
    have t' := Pend.mono (d := d) (d' := d.drop i) rfl rfl (Stp.drop d i).same (fun p _ z => z) t
    obtain ⟨d', h1, h2, h3, h4, h5⟩ := store_all (is := is) (rel.setv (i := i) r) t' (by simpa using hl)
    exact ⟨d', h1, h2, h3, fun b z => (h4 b z).elim (fun z => .inl (mem_set_none z)) .inr, h5⟩
  | i :: is, _, _, _, d, e, σ, rel, @Pend.own _ _ x p o tvs vs ps h1 h2 h3 h4 t, hl => by
    let d0 : Wd := { d with O := fun b => d.O b ∧ b ≠ p }
    have hd : d0.add p = d := by
      have : (fun b => (d.O b ∧ b ≠ p) ∨ b = p) = d.O := funext fun b => propext ⟨fun z => z.elim (·.1) fun z => z ▸ h1, fun z => (Classical.em (b = p)).elim .inr fun y => .inl ⟨z, y⟩⟩
      show ({ d with O := fun b => (d.O b ∧ b ≠ p) ∨ b = p } : Wd) = d
      rw [this]
    have hn : ¬ d0.D p := fun z => by
      rcases z with z | z | z
      · exact rel.ok.dWO p z h1
      · exact z.2 rfl
      · exact rel.ok.dOA p h1 z
    have rel' := Rel.seto (G := G) (d := d0) (e := h3) (i := i) (by rw [hd]; exact rel) hn (by rw [hd]; exact h4)
    have hS : Same d.R (d0.take i p).R := fun b u q => by
      obtain ⟨hd', hb⟩ := msk_some.mp q
      refine msk_some.mpr ⟨fun z => hd' ?_, hb⟩
      rcases z with z | z | z
      · exact .inl z
      · exact .inr (.inl z.1)
      · rcases mem_set_some z with z | z
        · subst z; exact .inr (.inl h1)
        · exact .inr (.inr z)
    have t' := Pend.mono (d := d) (d' := d0.take i p) rfl rfl hS (fun q hq z => ⟨z, fun y => h2 (y ▸ hq)⟩) t
    obtain ⟨d', q1, q2, q3, q4, q5⟩ := store_all (is := is) rel' t' (by simpa using hl)
    refine ⟨d', q1, q2, fun b => ?_, fun b z => ?_, q5⟩
    · rw [q3 b]
      show (d.O b ∧ b ≠ p) ∧ b ∉ ps ↔ _
      rw [List.mem_cons, not_or, and_assoc]
    · rcases q4 b z with z | z
      · rcases mem_set_some z with z | z
        · exact .inr (by simp [z])
        · exact .inl z
      · exact .inr (List.mem_cons_of_mem _ z)
theorem par_run {is : List Nat} {ms : List OW} {d : Wd} {env : Env} {P : EndsW} {D : Ends} (rel : Rel G d env σ) (h : sPar is ms P env) (f : Fin G d P D) (hl : ms.length = is.length) : argsTA G ms σ d.H fun vs H1 => D.nx (setAllV σ is vs) H1 ∧ vs.length = is.length :=
  tmps_run rel h fun tvs e vs d' ps k s hO hf rel' pe hl' => by
    obtain ⟨d2, h1, h2, h3, h4, h5⟩ := store_all (is := is) rel' pe (hl'.trans hl)
    have hOd : d2.O = d.O := funext fun b => propext (by
      rw [h3 b, hO b]
      constructor
      · rintro ⟨z | z, y⟩
        · exact z
        · exact absurd z y
      · intro z
        exact ⟨.inl z, fun y => rel.ok.al b (.inr (.inl z)) (hf b y)⟩)
    have s2 : Stp d d2 := ⟨hOd, fun b o e hw ha => by rw [h1]; exact s.keep b o e hw ha, fun b e => by rw [h1]; exact s.al b e, fun b z => by rw [h2]; exact s.w1 b z, fun b z => s.w2 b (by rw [h2] at z; exact z), fun b z => (h4 b z).elim (s.a2 b) fun z => .inr (hf b z)⟩
    have hv : vs.length = is.length := by
      have : ∀ {tvs : List TV} {vs : List V} {ps : List Addr}, Pend G d' tvs vs ps → vs.length = tvs.length := by
        intro tvs vs ps p
        induction p with
        | nil => rfl
        | v _ _ ih => exact congrArg Nat.succ ih
        | own _ _ _ _ _ ih => exact congrArg Nat.succ ih
      rw [this pe, hl', hl]
    refine ⟨?_, hv⟩
    rw [← h1]
    exact f.nx _ _ d2 k s2 h5
end
section
variable {X : Cx} {G : Gv} {k : Nat}
theorem ss_par2 {i j : Nat} {x y : Str} {a b : Expr} {m u : OW} {px py pt pos : Pos} {kt k2 pt2} (cx : CxOk X G k) (hi : X.N[i]? = some x) (hj : X.N[j]? = some y) (hij : i ≠ j) (hx : X.env.scope.names.lookup x = some .local) (hy : X.env.scope.names.lookup y = some .local) (ha : PA X [a, b] (argsTA G [m, u]))
    (hw : swappedStores [.Tuple [.Name x px, .Name y py] kt pt] (.Tuple [a, b] k2 pt2) X.env = pure (some [x, y])) : SS X G (.Assign [.Tuple [.Name x px, .Name y py] kt pt] (.Tuple [a, b] k2 pt2) pos) (sPar [i, j] [m, u]) :=
  PS.imp (ps_par cx.calm cx.nd hi hj hij hx hy ha hw (hs := rfl)) fun D σ H ⟨d, env, P, hH, rel, h, f⟩ => by
    subst hH
    have := par_run rel h f rfl
    obtain ⟨d1, e1, Q1, r1, r2, r3, r4⟩ := this
    refine ⟨d1, e1, Q1, r1, r2, r3, fun tv e v d' k s p => ?_⟩
    obtain ⟨d2, e2, Q2, q1, q2, q3, q4⟩ := r4 tv e v d' k s p
    refine ⟨d2, e2, Q2, q1, q2, q3, fun tv e v2 d' k s p => ?_⟩
    exact ⟨v, v2, rfl, (q4 tv e v2 d' k s p).1⟩
theorem ss_par3 {i j l : Nat} {x y z : Str} {a b c : Expr} {m u w : OW} {px py pz pt pos : Pos} {kt k2 pt2} (cx : CxOk X G k) (hi : X.N[i]? = some x) (hj : X.N[j]? = some y) (hl : X.N[l]? = some z) (hij : i ≠ j) (hil : i ≠ l) (hjl : j ≠ l) (hx : X.env.scope.names.lookup x = some .local) (hy : X.env.scope.names.lookup y = some .local) (hz : X.env.scope.names.lookup z = some .local) (ha : PA X [a, b, c] (argsTA G [m, u, w]))
    (hw : swappedStores [.Tuple [.Name x px, .Name y py, .Name z pz] kt pt] (.Tuple [a, b, c] k2 pt2) X.env = pure (some [x, y, z])) : SS X G (.Assign [.Tuple [.Name x px, .Name y py, .Name z pz] kt pt] (.Tuple [a, b, c] k2 pt2) pos) (sPar [i, j, l] [m, u, w]) :=
  PS.imp (ps_par3 cx.calm cx.nd hi hj hl hij hil hjl hx hy hz ha hw (hs := rfl)) fun D σ H ⟨d, env, P, hH, rel, h, f⟩ => by
    subst hH
    have := par_run rel h f rfl
    obtain ⟨d1, e1, Q1, r1, r2, r3, r4⟩ := this
    refine ⟨d1, e1, Q1, r1, r2, r3, fun tv e v d' k s p => ?_⟩
    obtain ⟨d2, e2, Q2, q1, q2, q3, q4⟩ := r4 tv e v d' k s p
    refine ⟨d2, e2, Q2, q1, q2, q3, fun tv e v2 d' k s p => ?_⟩
    obtain ⟨d3, e3, Q3, w1, w2, w3, w4⟩ := q4 tv e v2 d' k s p
    exact ⟨d3, e3, Q3, w1, w2, w3, fun tv e v3 d' k s p => ⟨v, v2, v3, rfl, (w4 tv e v3 d' k s p).1⟩⟩
end
end IL

/-! IL7: what a slot owns is changed: methods, stores, dicts. -/
namespace IL
open PySem PySem.Spec PyProof.Rows L2

/-! ### lists that a slot owns -/
def ownL (e : Env) (i : Nat) (K : List PV → Prop) : Prop := match e[i]? with
  | some (some (.own (.lst xs))) => K xs
  | _ => False
theorem ownL_of {e : Env} {i : Nat} {K : List PV → Prop} (h : ownL e i K) : ∃ xs, e[i]? = some (some (.own (.lst xs))) ∧ K xs := by
  unfold ownL at h
  split at h
  · rename_i xs hi
    exact ⟨xs, hi, h⟩
  · exact h.elim
section
variable {G : Gv} {d : Wd} {env : Env} {σ : St}
theorem Rel.writeA (rel : Rel G d env σ) {i : Nat} {c c' : PV} {o' : HO} {a : Addr} (e : env[i]? = some (some (.own c))) (hA : d.A[i]? = some (some a)) (hs : Sm o') (r : RpC G d.W d.R o' c') : Rel G (d.up a o') (env.set i (some (.own c'))) σ ∧ Stp d (d.up a o') := by
  have hm : some a ∈ d.A := List.mem_iff_getElem?.mpr ⟨i, hA⟩
  have hR : (d.up a o').R = d.R := msk_upd (.inr (.inr hm))
  refine ⟨⟨⟨rel.ok.dWO, rel.ok.dWA, rel.ok.dOA, rel.ok.inj, fun b z => upd_ne_none (rel.ok.al b z), fun b z => ?_, fun b u e => ?_⟩, by simp; exact rel.lenA, by simp; exact rel.lenS, fun j x q => ?_, fun j x q => ?_⟩,
    ⟨rfl, fun b o h _ ha => by show upd d.H a o' b = some o; rw [upd_ne (fun z => ha (by rw [z]; exact hm))]; exact h, fun b h => upd_ne_none h, fun b z => z, fun b z => .inl z, fun b z => .inl z⟩⟩
  · obtain ⟨u, e, q⟩ := rel.ok.wl b z
    exact ⟨u, by show upd d.H a o' b = some u; rw [upd_ne (fun y => rel.ok.dWA b z (by rw [y]; exact hm))]; exact e, q⟩
  · have e : upd d.H a o' b = some u := e
    by_cases hb : b = a
    · subst hb; rw [upd_same] at e; cases e; exact hs
    · rw [upd_ne hb] at e; exact rel.ok.sm b u e
  · rw [hR]
    rcases set_get q with ⟨_, z⟩ | ⟨hj, q⟩
    · cases z
    · exact rel.sl j x q
  · rw [hR]
    rcases set_get q with ⟨hj, z⟩ | ⟨hj, q⟩
    · subst hj
      cases z
      obtain ⟨a', o, h1, h2, _⟩ := rel.so j _ e
      rw [hA] at h1
      cases h1
      exact ⟨a, o', hA, h2, upd_same, r⟩
    · obtain ⟨a', o, h1, h2, h3, h4⟩ := rel.so j x q
      have hne : a' ≠ a := fun z => hj (rel.ok.inj j i a (z ▸ h1) hA)
      exact ⟨a', o, h1, h2, by show upd d.H a o' a' = some o; rw [upd_ne hne]; exact h3, h4⟩
theorem Rel.ownAt (rel : Rel G d env σ) {i : Nat} {xs : List PV} (e : env[i]? = some (some (.own (.lst xs)))) : ∃ a vs, d.A[i]? = some (some a) ∧ σ[i]? = some (some (.ref a)) ∧ d.H a = some (.lst vs) ∧ Rps G d.W d.R vs xs := by
  obtain ⟨a, o, h1, h2, h3, h4⟩ := rel.so i _ e
  cases h4 with
  | lst r => exact ⟨a, _, h1, h2, h3, r⟩
end
def noSup : Expr → Bool
  | .Call (.Name _ _) [] [] _ => false
  | _ => true
theorem attrBase {o : Expr} {f : Str} {env : PySem.Env} {w : Sem Value} (h : noSup o = true) : attributeBase o f env w = w := by
  unfold attributeBase
  split
  · cases h
  · rfl
section
variable {X : Cx} {T : String} {id : String} {name : Str} {r : V → List V → Hp → VK → Prop} {o e e2 : Expr} {to te te2 : TE} {apos cpos : Pos}
theorem pe_meth1 (pa : PlainAttrs T) (slot : Slot T name id) (hty : typeOf (.builtin id) = pure (.type "method_descriptor")) (hm : MtR X id r) (ho : PE X o to) (he : PE X e te) (hb : noSup o = true) (hs : isStar e = false) (hl : (apos.endLine == cpos.line) = true) :
    PE X (.Call (.Attribute o name apos) [e] [] cpos) (tBM X.K T r to (tCons te tNil)) :=
  pe_bm pa slot hty hm ho (pa_cons he pa_nil (hs := star_cons hs)) (hbase := attrBase hb) (hfew := by rw [star_cons hs]; rfl) (hline := hl) (hs := star_cons hs) (hplain := rfl)
theorem pe_meth2 (pa : PlainAttrs T) (slot : Slot T name id) (hty : typeOf (.builtin id) = pure (.type "method_descriptor")) (hm : MtR X id r) (ho : PE X o to) (he : PE X e te) (he2 : PE X e2 te2) (hb : noSup o = true) (hs : isStar e = false) (hs2 : isStar e2 = false) (hl : (apos.endLine == cpos.line) = true) :
    PE X (.Call (.Attribute o name apos) [e, e2] [] cpos) (tBM X.K T r to (tCons te (tCons te2 tNil))) :=
  pe_bm pa slot hty hm ho (pa_cons he (pa_cons he2 pa_nil (hs := star_cons hs2)) (hs := star_cons hs)) (hbase := attrBase hb) (hfew := by rw [star_cons hs, star_cons hs2]; rfl) (hline := hl) (hs := star_cons hs) (hplain := by rw [star_cons hs2]; rfl)
end
def oApp (i : Nat) (m : OW) : OW := fun env Q => ownL env i fun _ => m env fun tv e => ownL e i fun xs => xs.length < sizeLine ∧ Q (.v .non) (e.set i (some (.own (.lst (xs ++ [tv.pv])))))
def oExt (i : Nat) (m : OW) : OW := fun env Q => ownL env i fun _ => m env fun tv e => ownL e i fun xs => match tv.pv with
  | .lst ys => xs.length + ys.length ≤ sizeLine ∧ Q (.v .non) (e.set i (some (.own (.lst (xs ++ ys)))))
  | _ => False
def oPopAt (i : Nat) (m : OW) : OW := fun env Q => ownL env i fun _ => m env fun tv e => ownL e i fun xs => match tv.pv with
  | .int j => (-(2 ^ 63) ≤ j ∧ j < 2 ^ 63) ∧ match seqIndex? j xs.length with
    | some k => match xs[k]? with
      | some y => Q (.v y) (e.set i (some (.own (.lst (xs.eraseIdx k)))))
      | none => False
    | none => False
  | _ => False
def oPop (i : Nat) : OW := fun env Q => ownL env i fun xs => match xs[xs.length - 1]? with
  | some y => Q (.v y) (env.set i (some (.own (.lst xs.dropLast))))
  | none => False
def oIns (i : Nat) (m u : OW) : OW := fun env Q => ownL env i fun _ => m env fun tv e => u e fun tv2 e2 => ownL e2 i fun xs => match tv.pv with
  | .int j => (0 ≤ j ∧ j < 2 ^ 63) ∧ xs.length < sizeLine ∧ Q (.v .non) (e2.set i (some (.own (.lst (xs.take j.toNat ++ [tv2.pv] ++ xs.drop j.toNat)))))
  | _ => False
section
variable {X : Cx} {G : Gv} {k : Nat} {i : Nat} {x : Expr} {e e2 : Expr} {m u : OW} {apos cpos : Pos}
theorem tyV_list {K : PySem.W.Frag} {a : Addr} {vs : List V} {H : Hp} (h : H a = some (.lst vs)) : tyV K "list" (.ref a) H := Or.inl ⟨rfl, _, Or.inl (Or.inl h)⟩
theorem so_app (hx : PE X x (tVar i)) (hb : noSup x = true) (he : SO X G e m) (hs : isStar e = false) (hl : (apos.endLine == cpos.line) = true) : SO X G (.Call (.Attribute x "append" apos) [e] [] cpos) (oApp i m) :=
  PE.imp (pe_meth1 PySem.F.plainAttrs_list PySem.F.slot_list_append PySem.F.type_list_append mt_append hx he hb hs hl) fun σ H Q ⟨d, env, Qp, hH, rel, h, q⟩ => by
    subst hH
    obtain ⟨xs0, hi0, h⟩ := ownL_of h
    obtain ⟨a, vs0, hA0, hσ, h0, _⟩ := rel.ownAt hi0
    refine ⟨_, hσ, tyV_list h0, d, env, _, rfl, rel, h, fun tv e v d1 k1 s1 p1 => ?_⟩
    obtain ⟨rel1, r1⟩ := p1.frz
    obtain ⟨xs, hi, hz, k1⟩ := ownL_of k1
    obtain ⟨a', vs, hA, hσ', h1, rv⟩ := rel1.ownAt hi
    rw [hσ] at hσ'
    cases hσ'
    have hz' : (vs ++ [v]).length ≤ sizeLine := by simp; rw [rv.length]; exact hz
    obtain ⟨rel2, s2⟩ := rel1.writeA (o' := .lst (vs ++ [v])) hi hA hz' (.lst (rv.append (.one r1)))
    exact ⟨a, vs, v, rfl, rfl, h1, by rw [rv.length]; exact hz, q _ _ _ (d1.up a _) k1 (s1.trans s2) (.v rel2 .non)⟩
theorem so_ext (hx : PE X x (tVar i)) (hb : noSup x = true) (he : SO X G e m) (hs : isStar e = false) (hl : (apos.endLine == cpos.line) = true) : SO X G (.Call (.Attribute x "extend" apos) [e] [] cpos) (oExt i m) :=
  PE.imp (pe_meth1 PySem.F.plainAttrs_list PySem.F.slot_list_extend PySem.F.type_list_extend mt_extend hx he hb hs hl) fun σ H Q ⟨d, env, Qp, hH, rel, h, q⟩ => by
    subst hH
    obtain ⟨xs0, hi0, h⟩ := ownL_of h
    obtain ⟨a, vs0, hA0, hσ, h0, _⟩ := rel.ownAt hi0
    refine ⟨_, hσ, tyV_list h0, d, env, _, rfl, rel, h, fun tv e v d1 k1 s1 p1 => ?_⟩
    obtain ⟨rel1, r1⟩ := p1.frz
    obtain ⟨xs, hi, k1⟩ := ownL_of k1
    obtain ⟨a', vs, hA, hσ', h1, rv⟩ := rel1.ownAt hi
    rw [hσ] at hσ'
    cases hσ'
    cases hp : tv.pv with
    | lst ys =>
      rw [hp] at k1 r1
      cases r1 with
      | @lst b us ys hb' ru =>
        have hz' : (vs ++ us).length ≤ sizeLine := by simp; rw [rv.length, ru.length]; exact k1.1
        obtain ⟨rel2, s2⟩ := rel1.writeA (o' := .lst (vs ++ us)) hi hA hz' (.lst (rv.append ru))
        exact ⟨a, b, vs, us, rfl, rfl, h1, R_sub _ _ hb', by rw [rv.length, ru.length]; exact k1.1, q _ _ _ (d1.up a _) k1.2 (s1.trans s2) (.v rel2 .non)⟩
    | _ => rw [hp] at k1; exact k1.elim
theorem so_popAt (hx : PE X x (tVar i)) (hb : noSup x = true) (he : SO X G e m) (hs : isStar e = false) (hl : (apos.endLine == cpos.line) = true) : SO X G (.Call (.Attribute x "pop" apos) [e] [] cpos) (oPopAt i m) :=
  PE.imp (pe_meth1 PySem.F.plainAttrs_list PySem.F.slot_list_pop PySem.F.type_list_pop mt_popAt hx he hb hs hl) fun σ H Q ⟨d, env, Qp, hH, rel, h, q⟩ => by
    subst hH
    obtain ⟨xs0, hi0, h⟩ := ownL_of h
    obtain ⟨a, vs0, hA0, hσ, h0, _⟩ := rel.ownAt hi0
    refine ⟨_, hσ, tyV_list h0, d, env, _, rfl, rel, h, fun tv e v d1 k1 s1 p1 => ?_⟩
    obtain ⟨rel1, r1⟩ := p1.frz
    obtain ⟨xs, hi, k1⟩ := ownL_of k1
    obtain ⟨a', vs, hA, hσ', h1, rv⟩ := rel1.ownAt hi
    rw [hσ] at hσ'
    cases hσ'
    cases hp : tv.pv with
    | int j =>
      rw [hp] at k1 r1
      cases r1
      obtain ⟨⟨hj1, hj2⟩, k1⟩ := k1
      split at k1
      · rename_i jj hjj
        split at k1
        · rename_i y hy
          obtain ⟨w, hw, rw'⟩ := rv.get' jj hy
          have hz' : (vs.eraseIdx jj).length ≤ sizeLine := Nat.le_trans (List.length_eraseIdx_le _ _) (rel1.ok.sm a _ h1)
          obtain ⟨rel2, s2⟩ := rel1.writeA (o' := .lst (vs.eraseIdx jj)) hi hA hz' (.lst (rv.eraseIdx jj))
          exact ⟨a, vs, j, jj, w, rfl, rfl, h1, hj1, hj2, by rw [rv.length]; exact hjj, hw, q _ _ _ (d1.up a _) k1 (s1.trans s2) (.v rel2 (s2.rp rw'))⟩
        · exact k1.elim
      · exact k1.elim
    | _ => rw [hp] at k1; exact k1.elim
theorem so_pop (hx : PE X x (tVar i)) (hb : noSup x = true) (hl : (apos.endLine == cpos.line) = true) : SO X G (.Call (.Attribute x "pop" apos) [] [] cpos) (oPop i) :=
  PE.imp (pe_bm0 PySem.F.plainAttrs_list PySem.F.slot_list_pop PySem.F.type_list_pop mt_pop hx (hbase := attrBase hb) (hline := hl)) fun σ H Q ⟨d, env, Qp, hH, rel, h, q⟩ => by
    subst hH
    obtain ⟨xs, hi, h⟩ := ownL_of h
    obtain ⟨a, vs, hA, hσ, h0, rv⟩ := rel.ownAt hi
    split at h
    · rename_i y hy
      obtain ⟨w, hw, rw'⟩ := rv.get' _ hy
      have hz' : (vs.dropLast).length ≤ sizeLine := by
        have := rel.ok.sm a _ h0
        have : vs.length ≤ sizeLine := this
        simp; omega
      have rd : Rps G d.W d.R vs.dropLast xs.dropLast := by
        rw [List.dropLast_eq_take, List.dropLast_eq_take, rv.length]
        exact rv.take _
      obtain ⟨rel2, s2⟩ := rel.writeA (o' := .lst vs.dropLast) hi hA hz' (.lst rd)
      refine ⟨_, hσ, tyV_list h0, a, vs, w, rfl, rfl, h0, by rw [rv.length]; exact hw, q _ _ _ (d.up a _) h s2 (.v rel2 (s2.rp rw'))⟩
    · exact h.elim
theorem so_ins (hx : PE X x (tVar i)) (hb : noSup x = true) (he : SO X G e m) (he2 : SO X G e2 u) (hs : isStar e = false) (hs2 : isStar e2 = false) (hl : (apos.endLine == cpos.line) = true) : SO X G (.Call (.Attribute x "insert" apos) [e, e2] [] cpos) (oIns i m u) :=
  PE.imp (pe_meth2 PySem.F.plainAttrs_list PySem.F.slot_list_insert PySem.F.type_list_insert mt_insert hx he he2 hb hs hs2 hl) fun σ H Q ⟨d, env, Qp, hH, rel, h, q⟩ => by
    subst hH
    obtain ⟨xs0, hi0, h⟩ := ownL_of h
    obtain ⟨a, vs0, hA0, hσ, h0, _⟩ := rel.ownAt hi0
    refine ⟨_, hσ, tyV_list h0, d, env, _, rfl, rel, h, fun tv e v d1 k1 s1 p1 => ?_⟩
    obtain ⟨rel1, r1⟩ := p1.frz
    refine ⟨d1, e, _, rfl, rel1, k1, fun tv2 e2 v2 d2 k2 s2 p2 => ?_⟩
    obtain ⟨rel2, r2⟩ := p2.frz
    obtain ⟨xs, hi, k2⟩ := ownL_of k2
    obtain ⟨a', vs, hA, hσ', h1, rv⟩ := rel2.ownAt hi
    rw [hσ] at hσ'
    cases hσ'
    cases hp : tv.pv with
    | int j =>
      rw [hp] at k2 r1
      cases r1
      obtain ⟨⟨hj1, hj2⟩, hz, k2⟩ := k2
      have hz' : (vs.take j.toNat ++ [v2] ++ vs.drop j.toNat).length ≤ sizeLine := by
        have := rv.length
        simp
        omega
      obtain ⟨rel3, s3⟩ := rel2.writeA (o' := .lst (vs.take j.toNat ++ [v2] ++ vs.drop j.toNat)) hi hA hz' (.lst (((rv.take _).append (.one r2)).append (rv.drop _)))
      exact ⟨a, vs, j, v2, rfl, rfl, h1, by rw [rv.length]; exact hz, hj1, hj2, q _ _ _ (d2.up a _) k2 (s1.trans (s2.trans s3)) (.v rel3 .non)⟩
    | _ => rw [hp] at k2; exact k2.elim
end

/-! ### dicts -/
def keyOf : PV → Option Key
  | .int i => some (.inl i)
  | .str x => some (.inr x)
  | _ => none
def keysL : List PV → Option (List Key)
  | [] => some []
  | x :: xs => match keyOf x, keysL xs with
    | some k, some ks => some (k :: ks)
    | _, _ => none
def keysOf : PV → Option (List Key)
  | .tup xs => keysL xs
  | _ => none
section
variable {κ : Type} [DecidableEq κ]
def dLook : List κ → List PV → κ → Option PV
  | k :: ks, v :: vs, j => if k = j then some v else dLook ks vs j
  | _, _, _ => none
def dPutV : List κ → List PV → κ → PV → List PV
  | k :: ks, v :: vs, j, y => (if k = j then y else v) :: dPutV ks vs j y
  | _, vs, _, _ => vs
def dPutK (ks : List κ) (j : κ) : List κ := if j ∈ ks then ks else ks ++ [j]
def dPut (ks : List κ) (vs : List PV) (j : κ) (y : PV) : List PV := if j ∈ ks then dPutV ks vs j y else vs ++ [y]
variable {G : Gv} {W : Addr → Prop} {R : Hp}
theorem look_ok : ∀ {kvs : List (κ × V)} {ys : List PV} (j : κ), Rps G W R (kvs.map (·.2)) ys → match valV kvs j with
    | some v => ∃ x, dLook (kvs.map (·.1)) ys j = some x ∧ Rp G W R v x
    | none => dLook (kvs.map (·.1)) ys j = none
  | [], _, j, .nil => rfl
  | (k, v) :: r, _, j, @Rps.cons _ _ _ _ _ x xs h t => by
    by_cases e : k = j
    · rw [valV_pos e]
      exact ⟨x, by show (if k = j then some x else _) = some x; rw [if_pos e], h⟩
    · rw [valV_neg e]
      have ih := look_ok (kvs := r) j t
      have hl : dLook (((k, v) :: r).map (·.1)) (x :: xs) j = dLook (r.map (·.1)) xs j := by show (if k = j then some x else _) = _; rw [if_neg e]
      rw [hl]
      exact ih
theorem look_some {kvs : List (κ × V)} {ys : List PV} (j : κ) (r : Rps G W R (kvs.map (·.2)) ys) : (valV kvs j).isSome = (dLook (kvs.map (·.1)) ys j).isSome := by
  have lk := look_ok j r
  cases hl : valV kvs j with
  | none => rw [hl] at lk; rw [lk]; rfl
  | some w => rw [hl] at lk; obtain ⟨z, lz, _⟩ := lk; rw [lz]; rfl
theorem any_mem (kvs : List (κ × V)) (j : κ) : ((kvs.any fun kv => decide (kv.1 = j)) = true) ↔ j ∈ kvs.map (·.1) := by
  simp only [List.any_eq_true, decide_eq_true_eq, List.mem_map]
theorem putK_keys (kvs : List (κ × V)) (j : κ) (v : V) : (putK kvs j v).map (·.1) = dPutK (kvs.map (·.1)) j := by
  unfold putK dPutK
  by_cases h : j ∈ kvs.map (·.1)
  · rw [if_pos ((any_mem kvs j).mpr h), if_pos h]
    rw [List.map_map]
    apply List.map_congr_left
    intro p _
    show (if p.1 = j then (p.1, v) else p).1 = p.1
    split <;> rfl
  · rw [if_neg (fun z => h ((any_mem kvs j).mp z)), if_neg h, List.map_append]
    rfl
theorem putV_ok {v : V} {y : PV} (rv : Rp G W R v y) : ∀ {kvs : List (κ × V)} {ys : List PV} (j : κ), Rps G W R (kvs.map (·.2)) ys → Rps G W R ((kvs.map fun kv => if kv.1 = j then (kv.1, v) else kv).map (·.2)) (dPutV (kvs.map (·.1)) ys j y)
  | [], _, j, .nil => .nil
  | (k, u) :: r, _, j, @Rps.cons _ _ _ _ _ x xs h t => by
    refine .cons ?_ (putV_ok rv j t)
    show Rp G W R (if k = j then (k, v) else (k, u)).2 (if k = j then y else x)
    split
    · exact rv
    · exact h
theorem put_ok {v : V} {y : PV} (rv : Rp G W R v y) {kvs : List (κ × V)} {ys : List PV} (j : κ) (r : Rps G W R (kvs.map (·.2)) ys) : Rps G W R ((putK kvs j v).map (·.2)) (dPut (kvs.map (·.1)) ys j y) := by
  unfold putK dPut
  by_cases h : j ∈ kvs.map (·.1)
  · rw [if_pos ((any_mem kvs j).mpr h), if_pos h]
    exact putV_ok rv j r
  · rw [if_neg (fun z => h ((any_mem kvs j).mp z)), if_neg h, List.map_append]
    exact r.append (.one rv)
theorem putK_len' (kvs : List (κ × V)) (j : κ) (v : V) : (putK kvs j v).length ≤ kvs.length + 1 := by
  unfold putK
  split
  · simp
  · simp
end
theorem keyOf_ok {G : Gv} {d : Wd} {v : V} {x : PV} {k : Key} (r : RpB G d v x) (e : keyOf x = some k) : v = kV k := by
  cases x with
  | int i => cases e; cases (show Rp G d.W d.R v (.int i) from r); rfl
  | str z => cases e; cases (show Rp G d.W d.R v (.str z) from r); rfl
  | _ => cases e
theorem keysL_ok {G : Gv} {W : Addr → Prop} {R : Hp} : ∀ {xs : List PV} {vs : List V} {ks : List Key}, Rps G W R vs xs → keysL xs = some ks → vs = ks.map kV
  | [], _, _, .nil, e => by cases e; rfl
  | x :: xs, _, ks, .cons h t, e => by
    unfold keysL at e
    cases e1 : keyOf x with
    | none => rw [e1] at e; cases e
    | some k =>
      cases e2 : keysL xs with
      | none => rw [e1, e2] at e; cases e
      | some ks' =>
        rw [e1, e2] at e
        cases e
        rw [keysL_ok t e2]
        congr 1
        cases x with
        | int i => cases e1; cases h; rfl
        | str z => cases e1; cases h; rfl
        | _ => cases e1
theorem keysOf_ok {G : Gv} {d : Wd} {v : V} {x : PV} {ks : List Key} (r : RpB G d v x) (e : keysOf x = some ks) : ∃ b, v = .ref b ∧ d.H b = some (.tup (ks.map kV)) := by
  cases x with
  | tup xs =>
    cases (show Rp G d.W d.R v (.tup xs) from r) with
    | @tup a vs xs h t =>
      have := keysL_ok t e
      subst this
      exact ⟨a, rfl, R_sub _ _ h⟩
  | _ => cases e
/-- an empty dict may be of either kind -/
theorem dKT {X : Cx} {pins : List (Addr × Obj)} {σ : St} {H : Hp} {s : Shared} {a : Addr} (I : Inv X pins σ H s) (h : H a = some (.dK [])) : Inv X pins σ (upd H a (.dT [])) s := by
  obtain ⟨_, hm, vs, kv, o, es, ep, ho, hx, hd, _, hp, _⟩ := dk_of I.hok h
  cases kv
  have hes : es.toList = [] := by
    cases hq : es.toList with
    | nil => rfl
    | cons x r => rw [hq] at hp; cases hp
  exact I.write (x := a) (e := a) (h' := s.heap) (t' := s.toks) (by rw [h]; exact True.intro) (.inl rfl) (fun b u _ e => e) ⟨o, ho⟩ ⟨Nat.zero_le _, hm, [], .nil, o, es, ep, ho, hx, hd, hes, List.nodup_nil⟩
theorem dTK {X : Cx} {pins : List (Addr × Obj)} {σ : St} {H : Hp} {s : Shared} {a : Addr} {o : Obj} {ep : Nat} {n : Nat} (I : Inv X pins σ (upd H a (.dT [])) s) (h : H a = some (.dK [])) : Inv X pins σ H s := by
  obtain ⟨_, hm, xs, kv, o, es, ep, ho, hx, hd, hes, _⟩ := dt_of I.hok (show (upd H a (.dT [])) a = some (.dT []) from upd_same)
  cases kv
  have hes : es = #[] := by
    apply Array.ext'
    simpa using hes
  subst hes
  have := I.write (x := a) (e := a) (o := .dK []) (h' := s.heap) (t' := s.toks) (by rw [upd_same]; exact True.intro) (.inl rfl) (fun b u _ e => e) ⟨o, ho⟩ ⟨Nat.zero_le _, hm, [], .nil, o, #[], ep, ho, hx, hd, (by first | exact (fun i e q => absurd q (by simp)) | (intro i; simp) | simp [KeysOf, PySem.KeysOf]), .nil, List.nodup_nil⟩
  have e2 : upd (upd H a (.dT [])) a (.dK []) = H := by
    rw [upd_upd]
    funext b
    by_cases hb : b = a
    · subst hb; rw [upd_same, h]
    · rw [upd_ne hb]
  rw [e2] at this
  exact this
end IL

/-! IL8: primitives: operators, comparisons, subscripts, builtins. -/
namespace IL
open PySem PySem.Spec PyProof.Rows L2

abbrev P1 := PV → (TV → Prop) → Prop
abbrev P2 := PV → PV → (TV → Prop) → Prop
def lift1 (P : P1) : PrW := fun xs Q => match xs with
  | [x] => P x Q
  | _ => False
def lift2 (P : P2) : PrW := fun xs Q => match xs with
  | [x, y] => P x y Q
  | _ => False
section
variable {X : Cx} {G : Gv}
theorem two_inv {d : Wd} {P : P2} {x y : V} {xs : List PV} {Qp : TV → Prop} (r : RpBs G d [x, y] xs) (h : lift2 P xs Qp) : ∃ px py, xs = [px, py] ∧ RpB G d x px ∧ RpB G d y py ∧ P px py Qp := by
  cases r with
  | cons r1 r =>
    cases r with
    | cons r2 r =>
      cases r
      exact ⟨_, _, rfl, r1, r2, h⟩
theorem one_inv {d : Wd} {P : P1} {vs : List V} {xs : List PV} {Qp : TV → Prop} (r : RpBs G d vs xs) (h : lift1 P xs Qp) : ∃ x px, vs = [x] ∧ xs = [px] ∧ RpB G d x px ∧ P px Qp := by
  cases r with
  | nil => exact (show False from h).elim
  | cons r1 r =>
    cases r with
    | nil => exact ⟨_, _, rfl, rfl, r1, h⟩
    | cons r2 r => exact (show False from h).elim
theorem two_inv' {d : Wd} {P : P2} {vs : List V} {xs : List PV} {Qp : TV → Prop} (r : RpBs G d vs xs) (h : lift2 P xs Qp) : ∃ x y px py, vs = [x, y] ∧ xs = [px, py] ∧ RpB G d x px ∧ RpB G d y py ∧ P px py Qp := by
  cases r with
  | nil => exact (show False from h).elim
  | cons r1 r =>
    cases r with
    | nil => exact (show False from h).elim
    | cons r2 r =>
      cases r with
      | nil => exact ⟨_, _, _, _, rfl, rfl, r1, r2, h⟩
      | cons r3 r => exact (show False from h).elim
theorem opr2 {f : Value → Value → Sem Value} {P : P2} (h : ∀ (pins : List (Addr × Obj)) (s : Shared) (σ : St) (d : Wd) (x y : V) (v u : Value) (px py : PV) (Qp : TV → Prop) (Q : VK), Inv X pins σ d.H s → RelV x v → RelV y u → d.Ok G → RpB G d x px → RpB G d y py → P px py Qp →
    (∀ tv v H', Qp tv → Res G d tv v H' → Q v H') → wpAny (model X.prog X.w) X.A (f v u) (EP X pins σ Q) X.xe s) : OpR X f (rPrim2 G (lift2 P)) := by
  intro pins s σ H x y v u Q I rx ry ⟨d, xs, Qp, hH, ok, rs, hp, q⟩
  subst hH
  obtain ⟨px, py, rfl, r1, r2, hp⟩ := two_inv rs hp
  exact h pins s σ d x y v u px py Qp Q I rx ry ok r1 r2 hp q
end
theorem RpB.int {G : Gv} {d : Wd} {v : V} {i : Int} (h : RpB G d v (.int i)) : v = .int i := by
  cases (show Rp G d.W d.R v (.int i) from h); rfl
theorem RpB.str {G : Gv} {d : Wd} {v : V} {i : Str} (h : RpB G d v (.str i)) : v = .str i := by
  cases (show Rp G d.W d.R v (.str i) from h); rfl
theorem RpB.bl {G : Gv} {d : Wd} {v : V} {i : Bool} (h : RpB G d v (.bl i)) : v = .bl i := by
  cases (show Rp G d.W d.R v (.bl i) from h); rfl
theorem RpB.non {G : Gv} {d : Wd} {v : V} (h : RpB G d v .non) : v = .non := by
  cases (show Rp G d.W d.R v .non from h); rfl
theorem RpB.tup {G : Gv} {d : Wd} {v : V} {xs : List PV} (h : RpB G d v (.tup xs)) : ∃ a vs, v = .ref a ∧ d.R a = some (.tup vs) ∧ Rps G d.W d.R vs xs := by
  cases (show Rp G d.W d.R v (.tup xs) from h) with
  | @tup a vs xs e r => exact ⟨a, vs, rfl, e, r⟩
theorem RpB.scr {G : Gv} {d : Wd} {v : V} {xs : List Int} (h : RpB G d v (.scr xs)) : ∃ a, v = .ref a ∧ SqL G.K d.R a (xs.map V.int) := by
  cases (show Rp G d.W d.R v (.scr xs) from h) with
  | @scr a ns e => exact ⟨a, rfl, e⟩
section
variable {X : Cx} {G : Gv}
/-! ### + - * // % ** -/
def pAdd : P2 := fun x y Q => match x, y with
  | .int i, .int j => Q (.v (.int (i + j)))
  | .str a, .str b => a.length + b.length ≤ sizeLine ∧ Q (.v (.str (a ++ b)))
  | .tup xs, .tup ys => xs.length + ys.length ≤ sizeLine ∧ Q (.v (.tup (xs ++ ys)))
  | .lst xs, .lst ys => xs.length + ys.length ≤ sizeLine ∧ Q (.own (.lst (xs ++ ys)))
  | _, _ => False
theorem or_add : OpR X (binaryOp .Add) (rPrim2 G (lift2 pAdd)) := opr2 fun pins s σ d x y v u px py Qp Q I rx ry ok r1 r2 h q => by
  cases px with
  | int i =>
    cases py with
    | int j =>
      cases r1.int
      cases r2.int
      exact op_add pins s σ d.H _ _ v u Q I rx ry ⟨i, j, rfl, rfl, q _ _ _ h (.same (.int _))⟩
    | _ => exact (show False from h).elim
  | str i =>
    cases py with
    | str j =>
      cases r1.str
      cases r2.str
      exact op_add_str pins s σ d.H _ _ v u Q I rx ry ⟨i, j, rfl, rfl, h.1, q _ _ _ h.2 (.same (.str _))⟩
    | _ => exact (show False from h).elim
  | tup xs =>
    cases py with
    | tup ys =>
      obtain ⟨a, vs, rfl, e1, t1⟩ := r1.tup
      obtain ⟨b, us, rfl, e2, t2⟩ := r2.tup
      have l1 := t1.length
      have l2 := t2.length
      refine op_catA pins s σ d.H _ _ v u Q I rx ry ⟨a, b, vs, us, rfl, rfl, SqT.of (R_sub _ _ e1), SqT.of (R_sub _ _ e2), by rw [l1, l2]; exact h.1, fun z => ?_, fun _ z => ?_, fun _ _ p hp => ?_⟩
      · subst z
        cases xs with
        | nil => exact q _ _ _ h.2 (.same (.tup e2 t2))
        | cons _ _ => cases l1
      · subst z
        cases ys with
        | nil => exact q _ _ _ h.2 (.same (.tup e1 (by rw [List.append_nil]; exact t1)))
        | cons _ _ => cases l2
      · exact q _ _ _ h.2 (.tup hp (by rw [List.length_append, l1, l2]; exact h.1) (t1.append t2))
    | _ => exact (show False from h).elim
  | lst xs =>
    cases py with
    | lst ys =>
      obtain ⟨a, vs, rfl, e1, t1⟩ := r1
      obtain ⟨b, us, rfl, e2, t2⟩ := r2
      have l1 := t1.length
      have l2 := t2.length
      exact op_cat pins s σ d.H _ _ v u Q I rx ry ⟨a, b, vs, us, rfl, rfl, e1, e2, by rw [l1, l2]; exact h.1, fun p hp => q _ _ _ h.2 (.own (o := .lst (vs ++ us)) hp (by show (vs ++ us).length ≤ _; rw [List.length_append, l1, l2]; exact h.1) (.lst (t1.append t2)))⟩
    | _ => exact (show False from h).elim
  | _ => exact (show False from h).elim
def pII (C : Int → Int → Prop) (g : Int → Int → PV) : P2 := fun x y Q => match x, y with
  | .int i, .int j => C i j ∧ Q (.v (g i j))
  | _, _ => False
def pII0 (g : Int → Int → PV) : P2 := fun x y Q => match x, y with
  | .int i, .int j => Q (.v (g i j))
  | _, _ => False
theorem or_ii {f : Value → Value → Sem Value} {C : Int → Int → Prop} {g : Int → Int → Int} (ho : OpR X f (rI C fun i j => .int (g i j))) : OpR X f (rPrim2 G (lift2 (pII C fun i j => .int (g i j)))) := opr2 fun pins s σ d x y v u px py Qp Q I rx ry ok r1 r2 h q => by
  cases px with
  | int i =>
    cases py with
    | int j =>
      cases r1.int
      cases r2.int
      exact ho pins s σ d.H _ _ v u Q I rx ry ⟨i, j, rfl, rfl, h.1, q _ _ _ h.2 (.same (.int _))⟩
    | _ => exact (show False from h).elim
  | _ => exact (show False from h).elim
theorem or_ii0 {f : Value → Value → Sem Value} {g : Int → Int → Int} (ho : OpR X f (rI0 fun i j => .int (g i j))) : OpR X f (rPrim2 G (lift2 (pII0 fun i j => .int (g i j)))) := opr2 fun pins s σ d x y v u px py Qp Q I rx ry ok r1 r2 h q => by
  cases px with
  | int i =>
    cases py with
    | int j =>
      cases r1.int
      cases r2.int
      exact ho pins s σ d.H _ _ v u Q I rx ry ⟨i, j, rfl, rfl, q _ _ _ h (.same (.int _))⟩
    | _ => exact (show False from h).elim
  | _ => exact (show False from h).elim
def pSub : P2 := pII0 fun i j => .int (i - j)
theorem or_sub : OpR X (binaryOp .Sub) (rPrim2 G (lift2 pSub)) := or_ii0 op_sub
/-- int * int, list * int -/
def pMul : P2 := fun x y Q => match x, y with
  | .int i, .int j => (CMulW i j ∨ CMul i j) ∧ Q (.v (.int (i * j)))
  | .lst xs, .int k => (-(2 ^ 63) ≤ k ∧ k < 2 ^ 63) ∧ xs.length * k.toNat ≤ sizeLine ∧ Q (.own (.lst (List.replicate k.toNat xs).flatten))
  | _, _ => False
theorem Rps.rep {W : Addr → Prop} {R : Hp} {vs : List V} {xs : List PV} (r : Rps G W R vs xs) : ∀ n : Nat, Rps G W R (List.replicate n vs).flatten (List.replicate n xs).flatten
  | 0 => .nil
  | n + 1 => by
    rw [List.replicate_succ, List.replicate_succ, List.flatten_cons, List.flatten_cons]
    exact r.append (Rps.rep r n)
theorem or_mul : OpR X (binaryOp .Mult) (rPrim2 G (lift2 pMul)) := opr2 fun pins s σ d x y v u px py Qp Q I rx ry ok r1 r2 h q => by
  cases px with
  | int i =>
    cases py with
    | int j =>
      cases r1.int
      cases r2.int
      rcases h.1 with h1 | h1
      · exact op_mulW pins s σ d.H _ _ v u Q I rx ry ⟨i, j, rfl, rfl, h1, q _ _ _ h.2 (.same (.int _))⟩
      · exact op_mul pins s σ d.H _ _ v u Q I rx ry ⟨i, j, rfl, rfl, h1, q _ _ _ h.2 (.same (.int _))⟩
    | _ => exact (show False from h).elim
  | lst xs =>
    cases py with
    | int k =>
      obtain ⟨a, vs, rfl, e1, t1⟩ := r1
      cases r2.int
      have l1 := t1.length
      have hz : (List.replicate k.toNat vs).flatten.length ≤ sizeLine := by rw [List.length_flatten]; simp; rw [l1, Nat.mul_comm]; exact h.2.1
      exact op_rep pins s σ d.H _ _ v u Q I rx ry ⟨a, k, vs, rfl, rfl, e1, h.1.1, h.1.2, by rw [l1]; exact h.2.1, fun p hp => q _ _ _ h.2.2 (.own (o := .lst _) hp hz (.lst (t1.rep _)))⟩
    | _ => exact (show False from h).elim
  | _ => exact (show False from h).elim
def pFdiv : P2 := pII CDivW fun i j => .int (i / j)
theorem or_fdiv : OpR X (binaryOp .FloorDiv) (rPrim2 G (lift2 pFdiv)) := or_ii op_fdivW
def pMod : P2 := pII (fun _ j => 0 < j) fun i j => .int (i % j)
theorem or_mod : OpR X (binaryOp .Mod) (rPrim2 G (lift2 pMod)) := or_ii op_mod
def pPow : P2 := pII CPow fun i j => .int (i ^ j.toNat)
theorem or_pow : OpR X (binaryOp .Pow) (rPrim2 G (lift2 pPow)) := or_ii op_pow
def pShl : P2 := pII CPow fun i j => .int (i * 2 ^ j.toNat)
theorem or_shl : OpR X (binaryOp .LShift) (rPrim2 G (lift2 pShl)) := or_ii op_shl
def pShr : P2 := pII (fun _ j => 0 ≤ j) fun i j => .int (i / 2 ^ j.toNat)
theorem or_shr : OpR X (binaryOp .RShift) (rPrim2 G (lift2 pShr)) := or_ii op_shr
def pAnd : P2 := pII0 fun i j => .int (Builtin.bitAnd i j)
theorem or_and : OpR X (binaryOp .BitAnd) (rPrim2 G (lift2 pAnd)) := or_ii0 op_and
def pOr : P2 := pII0 fun i j => .int (Builtin.bitOr i j)
theorem or_or : OpR X (binaryOp .BitOr) (rPrim2 G (lift2 pOr)) := or_ii0 op_or
def pNeg : P1 := fun x Q => match x with
  | .int i => Q (.v (.int (-i)))
  | _ => False
theorem un_negP : UnR X (unaryOp .USub) fun x H Q => rPrim G (lift1 pNeg) [x] H Q := by
  intro pins s σ H x v Q I rx ⟨d, xs, Qp, hH, ok, rs, hp, q⟩
  subst hH
  obtain ⟨x', px, e, rfl, r1, hp⟩ := one_inv rs hp
  cases e
  cases px with
  | int i =>
    cases r1.int
    exact un_neg pins s σ d.H _ v Q I rx ⟨i, rfl, q _ _ _ hp (.same (.int _))⟩
  | _ => exact (show False from hp).elim

/-! ### == != in -/
mutual
def dat : PV → Option PyData
  | .non => some .none
  | .bl b => some (.bool b)
  | .int i => some (.int i)
  | .str x => some (.str x)
  | .tup xs => (datL xs).map .tuple
  | .lst xs => (datL xs).map .list
  | .scr ns => some (.list (ns.map .int))
  | _ => none
def datL : List PV → Option (List PyData)
  | [] => some []
  | x :: xs => match dat x, datL xs with
    | some d, some ds => some (d :: ds)
    | _, _ => none
end
theorem DpAll.ints {K : PySem.W.Frag} {H : Hp} : ∀ ns : List Int, DpAll K H (ns.map V.int) (ns.map PyData.int)
  | [] => .nil
  | n :: ns => .cons (.int n) (DpAll.ints ns)
mutual
theorem dat_ok {W : Addr → Prop} {R H : Hp} (hs : Same R H) : ∀ {x : PV} {v : V} {e : PyData}, Rp G W R v x → dat x = some e → Dp G.K H v e
  | .non, _, _, .non, h => by cases h; exact .non
  | .bl b, _, _, .bl _, h => by cases h; exact .bl b
  | .int i, _, _, .int _, h => by cases h; exact .int i
  | .str x, _, _, .str _, h => by cases h; exact .str x
  | .tup xs, _, _, .tup e r, h => by
    simp only [dat] at h
    cases hx : datL xs with
    | none => rw [hx] at h; cases h
    | some ds =>
      rw [hx] at h
      cases h
      exact .tup (SqT.of (hs _ _ e)) (datL_ok hs r hx)
  | .lst xs, _, _, .lst e r, h => by
    simp only [dat] at h
    cases hx : datL xs with
    | none => rw [hx] at h; cases h
    | some ds =>
      rw [hx] at h
      cases h
      exact .lst (SqL.of (hs _ _ e)) (datL_ok hs r hx)
  | .scr ns, _, _, .scr e, h => by
    simp only [dat] at h
    cases h
    exact .lst (Same.seq hs e) (DpAll.ints ns)
  | .ty _, _, _, _, h => by simp [dat] at h
  | .fn _, _, _, _, h => by simp [dat] at h
  | .dK _ _, _, _, _, h => by simp [dat] at h
  | .dT _ _, _, _, _, h => by simp [dat] at h
  | .well, _, _, _, h => by simp [dat] at h
theorem datL_ok {W : Addr → Prop} {R H : Hp} (hs : Same R H) : ∀ {xs : List PV} {vs : List V} {es : List PyData}, Rps G W R vs xs → datL xs = some es → DpAll G.K H vs es
  | [], _, _, .nil, h => by
    simp only [datL] at h
    cases h
    exact .nil
  | x :: xs, _, _, .cons r t, h => by
    simp only [datL] at h
    cases h1 : dat x with
    | none => rw [h1] at h; cases h
    | some d =>
      cases h2 : datL xs with
      | none => rw [h1, h2] at h; cases h
      | some ds =>
        rw [h1, h2] at h
        cases h
        exact .cons (dat_ok hs r h1) (datL_ok hs t h2)
end
theorem dat_okB {d : Wd} {x : PV} {v : V} {e : PyData} (r : RpB G d v x) (h : dat x = some e) : Dp G.K d.H v e := by
  cases x with
  | lst xs =>
    obtain ⟨a, vs, rfl, e1, t⟩ := r
    simp only [dat] at h
    cases hx : datL xs with
    | none => rw [hx] at h; cases h
    | some ds =>
      rw [hx] at h
      cases h
      exact .lst (SqL.of e1) (datL_ok R_sub t hx)
  | dK ks vs => simp [dat] at h
  | dT ks vs => simp [dat] at h
  | _ => exact dat_ok R_sub (show Rp G d.W d.R v _ from r) h
/-- data that == compares -/
def okD (x : PV) : Bool := match dat x with
  | some d => SeqAt.shaped d
  | none => false
def eqPV (x y : PV) : Bool := match dat x, dat y with
  | some d, some e => PyData.eqv d e
  | _, _ => false
theorem okD_some {x : PV} (h : okD x = true) : ∃ d, dat x = some d ∧ SeqAt.shaped d = true := by
  unfold okD at h
  split at h
  · exact ⟨_, by assumption, h⟩
  · cases h
def pEq (neg : Bool) : P2 := fun x y Q => okD x = true ∧ okD y = true ∧ Q (.v (.bl (eqPV x y != neg)))
theorem or_eq {k : Nat} (cx : CxOk X G k) : OpR X (compareOp .Eq) (rPrim2 G (lift2 (pEq false))) := opr2 fun pins s σ d x y v u px py Qp Q I rx ry ok r1 r2 h q => by
  obtain ⟨h1, h2, h⟩ := h
  obtain ⟨e1, g1, s1⟩ := okD_some h1
  obtain ⟨e2, g2, s2⟩ := okD_some h2
  refine op_eqD cx.hu64 pins s σ d.H _ _ v u Q I rx ry ⟨e1, e2, by rw [cx.K]; exact dat_okB r1 g1, by rw [cx.K]; exact dat_okB r2 g2, s1, s2, ?_⟩
  have e : PyData.eqv e1 e2 = (eqPV px py != false) := by unfold eqPV; rw [g1, g2]; simp
  rw [e]
  exact q _ _ _ h (.same (.bl _))
theorem or_ne {k : Nat} (cx : CxOk X G k) : OpR X (compareOp .NotEq) (rPrim2 G (lift2 (pEq true))) := opr2 fun pins s σ d x y v u px py Qp Q I rx ry ok r1 r2 h q => by
  obtain ⟨h1, h2, h⟩ := h
  obtain ⟨e1, g1, s1⟩ := okD_some h1
  obtain ⟨e2, g2, s2⟩ := okD_some h2
  refine op_neD cx.hu64 pins s σ d.H _ _ v u Q I rx ry ⟨e1, e2, by rw [cx.K]; exact dat_okB r1 g1, by rw [cx.K]; exact dat_okB r2 g2, s1, s2, ?_⟩
  have e : (!PyData.eqv e1 e2) = (eqPV px py != true) := by unfold eqPV; rw [g1, g2]; simp
  rw [e]
  exact q _ _ _ h (.same (.bl _))
/-! ### < <= > >= -/
def intsOf : List PV → Option (List Int)
  | [] => some []
  | .int i :: xs => (intsOf xs).map (i :: ·)
  | _ :: _ => none
theorem intsOf_eq : ∀ {xs : List PV} {ns : List Int}, intsOf xs = some ns → xs = ns.map .int
  | [], _, h => by cases h; rfl
  | x :: xs, ns, h => by
    cases x with
    | int i =>
      simp only [intsOf] at h
      cases hx : intsOf xs with
      | none => rw [hx] at h; cases h
      | some ms =>
        rw [hx] at h
        cases h
        rw [intsOf_eq hx]
        rfl
    | _ => cases h
def pLt : P2 := fun x y Q => match x, y with
  | .int i, .int j => Q (.v (.bl (decide (i < j))))
  | .tup xs, .tup ys => match intsOf xs, intsOf ys with
    | some ns, some ms => Q (.v (.bl (HT.lexLt ns ms)))
    | _, _ => False
  | _, _ => False
theorem or_lt {k : Nat} (cx : CxOk X G k) : OpR X (compareOp .Lt) (rPrim2 G (lift2 pLt)) := opr2 fun pins s σ d x y v u px py Qp Q I rx ry ok r1 r2 h q => by
  cases px with
  | int i =>
    cases py with
    | int j =>
      cases r1.int
      cases r2.int
      exact op_lt pins s σ d.H _ _ v u Q I rx ry ⟨i, j, rfl, rfl, q _ _ _ h (.same (.bl _))⟩
    | _ => exact (show False from h).elim
  | tup xs =>
    cases py with
    | tup ys =>
      have h : (match intsOf xs, intsOf ys with | some ns, some ms => Qp (.v (.bl (HT.lexLt ns ms))) | _, _ => False) := h
      cases h1 : intsOf xs with
      | none => rw [h1] at h; exact h.elim
      | some ns =>
        cases h2 : intsOf ys with
        | none => rw [h1, h2] at h; exact h.elim
        | some ms =>
          rw [h1, h2] at h
          obtain ⟨a, vs, rfl, e1, t1⟩ := r1.tup
          obtain ⟨b, us, rfl, e2, t2⟩ := r2.tup
          rw [intsOf_eq h1] at t1
          rw [intsOf_eq h2] at t2
          cases t1.ints_inv
          cases t2.ints_inv
          exact op_ltT cx.room.units0 pins s σ d.H _ _ v u Q I rx ry ⟨a, b, ns, ms, rfl, rfl, SqT.of (R_sub _ _ e1), SqT.of (R_sub _ _ e2), q _ _ _ h (.same (.bl _))⟩
    | _ => exact (show False from h).elim
  | _ => exact (show False from h).elim
/-- <= of two tuples of ints -/
def leLex (ns ms : List Int) : Bool := Ob.lexAt (fun j => decide (ns.getD j 0 = ms.getD j 0)) (fun j => decide (ns.getD j 0 ≤ ms.getD j 0)) (decide (ns.length ≤ ms.length)) 0 (min ns.length ms.length)
def pLe : P2 := fun x y Q => match x, y with
  | .int i, .int j => Q (.v (.bl (decide (i ≤ j))))
  | .tup xs, .tup ys => match intsOf xs, intsOf ys with
    | some ns, some ms => Q (.v (.bl (leLex ns ms)))
    | _, _ => False
  | _, _ => False
def pGt : P2 := pII0 fun i j => .bl (decide (j < i))
def pGe : P2 := pII0 fun i j => .bl (decide (j ≤ i))
theorem or_iib {f : Value → Value → Sem Value} {g : Int → Int → Bool} (ho : OpR X f (rI0 fun i j => .bl (g i j))) : OpR X f (rPrim2 G (lift2 (pII0 fun i j => .bl (g i j)))) := opr2 fun pins s σ d x y v u px py Qp Q I rx ry ok r1 r2 h q => by
  cases px with
  | int i =>
    cases py with
    | int j =>
      cases r1.int
      cases r2.int
      exact ho pins s σ d.H _ _ v u Q I rx ry ⟨i, j, rfl, rfl, q _ _ _ h (.same (.bl _))⟩
    | _ => exact (show False from h).elim
  | _ => exact (show False from h).elim
theorem or_le {k : Nat} (cx : CxOk X G k) : OpR X (compareOp .LtE) (rPrim2 G (lift2 pLe)) := opr2 fun pins s σ d x y v u px py Qp Q I rx ry ok r1 r2 h q => by
  cases px with
  | int i =>
    cases py with
    | int j =>
      cases r1.int
      cases r2.int
      exact op_le pins s σ d.H _ _ v u Q I rx ry ⟨i, j, rfl, rfl, q _ _ _ h (.same (.bl _))⟩
    | _ => exact (show False from h).elim
  | tup xs =>
    cases py with
    | tup ys =>
      have h : (match intsOf xs, intsOf ys with | some ns, some ms => Qp (.v (.bl (leLex ns ms))) | _, _ => False) := h
      cases h1 : intsOf xs with
      | none => rw [h1] at h; exact h.elim
      | some ns =>
        cases h2 : intsOf ys with
        | none => rw [h1, h2] at h; exact h.elim
        | some ms =>
          rw [h1, h2] at h
          obtain ⟨a, vs, rfl, e1, t1⟩ := r1.tup
          obtain ⟨b, us, rfl, e2, t2⟩ := r2.tup
          rw [intsOf_eq h1] at t1
          rw [intsOf_eq h2] at t2
          cases t1.ints_inv
          cases t2.ints_inv
          exact op_leT cx.room.units0 pins s σ d.H _ _ v u Q I rx ry ⟨a, b, ns, ms, rfl, rfl, SqT.of (R_sub _ _ e1), SqT.of (R_sub _ _ e2), q _ _ _ h (.same (.bl _))⟩
    | _ => exact (show False from h).elim
  | _ => exact (show False from h).elim
theorem or_gt : OpR X (compareOp .Gt) (rPrim2 G (lift2 pGt)) := or_iib op_gt
theorem or_ge : OpR X (compareOp .GtE) (rPrim2 G (lift2 pGe)) := or_iib op_ge
/-! ### is -/
def isNonPV : PV → Bool
  | .non => true
  | _ => false
def pIs (neg : Bool) : P2 := fun x y Q => match x, y with
  | x, .non => Q (.v (.bl ((isNonPV x) != neg)))
  | .bl a, .bl b => Q (.v (.bl (decide (a = b) != neg)))
  | _, _ => False
theorem RpB.isNon {d : Wd} {v : V} {x : PV} (r : RpB G d v x) : decide (v = .non) = (isNonPV x) := by
  cases x with
  | non => cases r.non; rfl
  | lst xs => obtain ⟨a, vs, rfl, _⟩ := r; rfl
  | dK xs ys => obtain ⟨a, vs, rfl, _⟩ := r; rfl
  | dT xs ys => obtain ⟨a, vs, rfl, _⟩ := r; rfl
  | bl b => cases r.bl; rfl
  | int b => cases r.int; rfl
  | str b => cases r.str; rfl
  | tup xs => obtain ⟨a, vs, rfl, _⟩ := r.tup; rfl
  | scr xs => obtain ⟨a, rfl, _⟩ := r.scr; rfl
  | ty n => cases (show Rp G d.W d.R v (.ty n) from r); rfl
  | fn n => cases (show Rp G d.W d.R v (.fn n) from r); rfl
  | well => cases (show Rp G d.W d.R v .well from r); rfl
theorem or_is : OpR X (compareOp .Is) (rPrim2 G (lift2 (pIs false))) := opr2 fun pins s σ d x y v u px py Qp Q I rx ry ok r1 r2 h q => by
  cases py with
  | non =>
    have h : Qp (.v (.bl ((isNonPV px) != false))) := by cases px <;> exact h
    cases r2.non
    refine op_isN pins s σ d.H _ _ v u Q I rx ry ⟨rfl, ?_⟩
    rw [r1.isNon]
    have := q _ _ _ h (.same (.bl _))
    simpa using this
  | bl b =>
    cases px with
    | bl a =>
      cases r1.bl
      cases r2.bl
      refine op_is_bl pins s σ d.H _ _ v u Q I rx ry ⟨a, b, rfl, rfl, ?_⟩
      have := q _ _ _ h (.same (.bl _))
      simpa using this
    | _ => exact (show False from h).elim
  | _ => cases px <;> exact (show False from h).elim
theorem or_isnot : OpR X (compareOp .IsNot) (rPrim2 G (lift2 (pIs true))) := opr2 fun pins s σ d x y v u px py Qp Q I rx ry ok r1 r2 h q => by
  cases py with
  | non =>
    have h : Qp (.v (.bl ((isNonPV px) != true))) := by cases px <;> exact h
    cases r2.non
    refine op_notN pins s σ d.H _ _ v u Q I rx ry ⟨rfl, ?_⟩
    rw [r1.isNon]
    have := q _ _ _ h (.same (.bl _))
    simpa using this
  | bl b =>
    cases px with
    | bl a =>
      cases r1.bl
      cases r2.bl
      refine op_isnot_bl pins s σ d.H _ _ v u Q I rx ry ⟨a, b, rfl, rfl, ?_⟩
      have := q _ _ _ h (.same (.bl _))
      simpa using this
    | _ => exact (show False from h).elim
  | _ => cases px <;> exact (show False from h).elim
end
end IL

/-! IL9: in, subscripts, slices, builtins, methods that read. -/
namespace IL
open PySem PySem.Spec PyProof.Rows L2

section
variable {X : Cx} {G : Gv}
/-! ### in, not in -/
def pIn (neg : Bool) : P2 := fun x c Q => match c with
  | .tup ys => okD x = true ∧ okD (.tup ys) = true ∧ Q (.v (.bl ((ys.any fun z => eqPV z x) != neg)))
  | .lst ys => okD x = true ∧ okD (.lst ys) = true ∧ Q (.v (.bl ((ys.any fun z => eqPV z x) != neg)))
  | .str z => match x with
    | .str a => match a.cps.toList with
      | [s] => Q (.v (.bl (decide (s ∈ z.cps.toList) != neg)))
      | _ => False
    | _ => False
  | .dK ks vs => match keyOf x with
    | some k => Q (.v (.bl ((dLook ks vs k).isSome != neg)))
    | none => match keysOf x with
      | some _ => ks = [] ∧ Q (.v (.bl neg))
      | none => False
  | .dT ks vs => match keysOf x with
    | some k => Q (.v (.bl ((dLook ks vs k).isSome != neg)))
    | none => False
  | _ => False
theorem datL_any {x : PV} {d : PyData} (hx : dat x = some d) : ∀ {ys : List PV} {ds : List PyData}, datL ys = some ds → (ds.any fun z => PyData.eqv z d) = ys.any fun z => eqPV z x
  | [], _, h => by simp only [datL] at h; cases h; rfl
  | y :: ys, _, h => by
    simp only [datL] at h
    cases h1 : dat y with
    | none => rw [h1] at h; cases h
    | some e =>
      cases h2 : datL ys with
      | none => rw [h1, h2] at h; cases h
      | some es =>
        rw [h1, h2] at h
        cases h
        rw [List.any_cons, List.any_cons, datL_any hx h2]
        congr 1
        unfold eqPV
        rw [h1, hx]
theorem okD_tup {ys : List PV} (h : okD (.tup ys) = true) : ∃ ds, datL ys = some ds ∧ SeqAt.shaped (.tuple ds) = true := by
  obtain ⟨d, h1, h2⟩ := okD_some h
  simp only [dat] at h1
  cases hx : datL ys with
  | none => rw [hx] at h1; cases h1
  | some ds => rw [hx] at h1; cases h1; exact ⟨ds, rfl, h2⟩
theorem okD_lst {ys : List PV} (h : okD (.lst ys) = true) : ∃ ds, datL ys = some ds ∧ SeqAt.shaped (.list ds) = true := by
  obtain ⟨d, h1, h2⟩ := okD_some h
  simp only [dat] at h1
  cases hx : datL ys with
  | none => rw [hx] at h1; cases h1
  | some ds => rw [hx] at h1; cases h1; exact ⟨ds, rfl, h2⟩
theorem or_in {k : Nat} (cx : CxOk X G k) : OpR X (compareOp .In) (rPrim2 G (lift2 (pIn false))) := opr2 fun pins s σ d x y v u px py Qp Q I rx ry ok r1 r2 h q => by
  cases py with
  | tup ys =>
    obtain ⟨h1, h2, h⟩ := h
    obtain ⟨e1, g1, s1⟩ := okD_some h1
    obtain ⟨ds, g2, s2⟩ := okD_tup h2
    have b2 : Dp X.K d.H y (.tuple ds) := by rw [cx.K]; exact dat_okB r2 (by simp only [dat, g2]; rfl)
    obtain ⟨as, q1⟩ := Dp.reads I e1 x v (by rw [cx.K]; exact dat_okB r1 g1) rx
    obtain ⟨bs, q2⟩ := Dp.reads I _ y u b2 ry
    refine SeqAt.in_tuple_reads q2 q1 (SeqAt.canLay_of_shaped s2) (SeqAt.canLay_of_shaped s1) (room_in_shaped s1 cx.hu65) ⟨.bl _, d.H, I, rfl, ?_⟩
    rw [datL_any g1 g2]
    have := q _ _ _ h (.same (.bl _))
    simpa using this
  | lst ys =>
    obtain ⟨h1, h2, h⟩ := h
    obtain ⟨e1, g1, s1⟩ := okD_some h1
    obtain ⟨ds, g2, s2⟩ := okD_lst h2
    refine op_inD cx.hu65 pins s σ d.H _ _ v u Q I rx ry ⟨e1, ds, by rw [cx.K]; exact dat_okB r1 g1, by rw [cx.K]; exact dat_okB r2 (by simp only [dat, g2]; rfl), s1, s2, ?_⟩
    rw [datL_any g1 g2]
    have := q _ _ _ h (.same (.bl _))
    simpa using this
  | str z =>
    cases r2.str
    cases px with
    | str a =>
      cases r1.str
      have h : (match a.cps.toList with | [s] => Qp (.v (.bl (decide (s ∈ z.cps.toList) != false))) | _ => False) := h
      split at h
      · rename_i c hc
        have ea : a = ⟨#[c]⟩ := by
          cases a
          congr
          apply Array.ext'
          simpa using hc
        subst ea
        refine op_in_sign pins s σ d.H _ _ v u Q I rx ry ⟨c, z, rfl, rfl, ?_⟩
        have := q _ _ _ h (.same (.bl _))
        simpa using this
      · exact h.elim
    | _ => exact (show False from h).elim
  | dK ks ys =>
    obtain ⟨a, kvs, rfl, ho, rfl, hv⟩ := r2
    cases ry
    have h : (match keyOf px with | some k => Qp (.v (.bl ((dLook (kvs.map (·.1)) ys k).isSome != false))) | none => match keysOf px with | some _ => kvs.map (·.1) = [] ∧ Qp (.v (.bl false)) | none => False) := h
    cases hk : keyOf px with
    | some kk =>
      rw [hk] at h
      have h : Qp (.v (.bl ((dLook (kvs.map (·.1)) ys kk).isSome != false))) := h
      cases keyOf_ok r1 hk
      refine d_in cx.hu1 I (.inl ⟨kvs, kk, ho.rd, rfl, rfl⟩) rx fun s' I' => ⟨.bl _, d.H, I', rfl, ?_⟩
      rw [look_some kk hv]
      have := q _ _ _ h (.same (.bl _))
      simpa using this
    | none =>
      rw [hk] at h
      cases hks : keysOf px with
      | none => rw [hks] at h; exact h.elim
      | some kk =>
        rw [hks] at h
        obtain ⟨hn, h7⟩ := h
        obtain ⟨b, rfl, hb⟩ := keysOf_ok r1 hks
        have hkv : kvs = [] := List.map_eq_nil_iff.mp hn
        subst hkv
        rcases ho with ho | ⟨hne, _⟩
        · have I2 := dKT I ho
          have hne : b ≠ a := fun z => by rw [z, ho] at hb; cases hb
          refine d_in cx.hu1 I2 (o := none) (.inr ⟨[], kk, b, .inl upd_same, rfl, by rw [upd_ne hne]; exact hb, rfl⟩) rx fun s' I' => ⟨.bl _, d.H, dTK (n := 0) (ep := 0) (o := default) I' ho, rfl, ?_⟩
          exact q _ _ _ h7 (.same (.bl _))
        · exact absurd rfl hne
  | dT ks ys =>
    obtain ⟨a, kvs, rfl, ho, rfl, hv⟩ := r2
    cases ry
    have h : (match keysOf px with | some k => Qp (.v (.bl ((dLook (kvs.map (·.1)) ys k).isSome != false))) | none => False) := h
    cases hks : keysOf px with
    | none => rw [hks] at h; exact h.elim
    | some kk =>
      rw [hks] at h
      have h : Qp (.v (.bl ((dLook (kvs.map (·.1)) ys kk).isSome != false))) := h
      obtain ⟨b, rfl, hb⟩ := keysOf_ok r1 hks
      refine d_in cx.hu1 I (.inr ⟨kvs, kk, b, .inl ho, rfl, hb, rfl⟩) rx fun s' I' => ⟨.bl _, d.H, I', rfl, ?_⟩
      rw [look_some kk hv]
      have := q _ _ _ h (.same (.bl _))
      simpa using this
  | _ => exact (show False from h).elim
theorem or_notin {k : Nat} (cx : CxOk X G k) : OpR X (compareOp .NotIn) (rPrim2 G (lift2 (pIn true))) := opr2 fun pins s σ d x y v u px py Qp Q I rx ry ok r1 r2 h q => by
  cases py with
  | tup ys =>
    obtain ⟨h1, h2, h⟩ := h
    obtain ⟨e1, g1, s1⟩ := okD_some h1
    obtain ⟨ds, g2, s2⟩ := okD_tup h2
    have b2 : Dp X.K d.H y (.tuple ds) := by rw [cx.K]; exact dat_okB r2 (by simp only [dat, g2]; rfl)
    obtain ⟨as, q1⟩ := Dp.reads I e1 x v (by rw [cx.K]; exact dat_okB r1 g1) rx
    obtain ⟨bs, q2⟩ := Dp.reads I _ y u b2 ry
    refine SeqAt.notIn_tuple_reads q2 q1 (SeqAt.canLay_of_shaped s2) (SeqAt.canLay_of_shaped s1) (room_in_shaped s1 cx.hu65) ⟨.bl _, d.H, I, rfl, ?_⟩
    rw [datL_any g1 g2]
    have := q _ _ _ h (.same (.bl _))
    simpa using this
  | lst ys =>
    obtain ⟨h1, h2, h⟩ := h
    obtain ⟨e1, g1, s1⟩ := okD_some h1
    obtain ⟨ds, g2, s2⟩ := okD_lst h2
    refine op_notInD cx.hu65 pins s σ d.H _ _ v u Q I rx ry ⟨e1, ds, by rw [cx.K]; exact dat_okB r1 g1, by rw [cx.K]; exact dat_okB r2 (by simp only [dat, g2]; rfl), s1, s2, ?_⟩
    rw [datL_any g1 g2]
    have := q _ _ _ h (.same (.bl _))
    simpa using this
  | str z =>
    cases r2.str
    cases px with
    | str a =>
      cases r1.str
      have h : (match a.cps.toList with | [s] => Qp (.v (.bl (decide (s ∈ z.cps.toList) != true))) | _ => False) := h
      split at h
      · rename_i c hc
        have ea : a = ⟨#[c]⟩ := by
          cases a
          congr
          apply Array.ext'
          simpa using hc
        subst ea
        refine op_notIn_sign pins s σ d.H _ _ v u Q I rx ry ⟨c, z, rfl, rfl, ?_⟩
        have := q _ _ _ h (.same (.bl _))
        simpa using this
      · exact h.elim
    | _ => exact (show False from h).elim
  | dK ks ys =>
    obtain ⟨a, kvs, rfl, ho, rfl, hv⟩ := r2
    cases ry
    have h : (match keyOf px with | some k => Qp (.v (.bl ((dLook (kvs.map (·.1)) ys k).isSome != true))) | none => match keysOf px with | some _ => kvs.map (·.1) = [] ∧ Qp (.v (.bl true)) | none => False) := h
    cases hk : keyOf px with
    | some kk =>
      rw [hk] at h
      have h : Qp (.v (.bl ((dLook (kvs.map (·.1)) ys kk).isSome != true))) := h
      cases keyOf_ok r1 hk
      refine d_notIn cx.hu1 I (.inl ⟨kvs, kk, ho.rd, rfl, rfl⟩) rx fun s' I' => ⟨.bl _, d.H, I', rfl, ?_⟩
      rw [look_some kk hv]
      have := q _ _ _ h (.same (.bl _))
      simpa using this
    | none =>
      rw [hk] at h
      cases hks : keysOf px with
      | none => rw [hks] at h; exact h.elim
      | some kk =>
        rw [hks] at h
        obtain ⟨hn, h7⟩ := h
        obtain ⟨b, rfl, hb⟩ := keysOf_ok r1 hks
        have hkv : kvs = [] := List.map_eq_nil_iff.mp hn
        subst hkv
        rcases ho with ho | ⟨hne, _⟩
        · have I2 := dKT I ho
          have hne : b ≠ a := fun z => by rw [z, ho] at hb; cases hb
          refine d_notIn cx.hu1 I2 (o := none) (.inr ⟨[], kk, b, .inl upd_same, rfl, by rw [upd_ne hne]; exact hb, rfl⟩) rx fun s' I' => ⟨.bl _, d.H, dTK (n := 0) (ep := 0) (o := default) I' ho, rfl, ?_⟩
          exact q _ _ _ h7 (.same (.bl _))
        · exact absurd rfl hne
  | dT ks ys =>
    obtain ⟨a, kvs, rfl, ho, rfl, hv⟩ := r2
    cases ry
    have h : (match keysOf px with | some k => Qp (.v (.bl ((dLook (kvs.map (·.1)) ys k).isSome != true))) | none => False) := h
    cases hks : keysOf px with
    | none => rw [hks] at h; exact h.elim
    | some kk =>
      rw [hks] at h
      have h : Qp (.v (.bl ((dLook (kvs.map (·.1)) ys kk).isSome != true))) := h
      obtain ⟨b, rfl, hb⟩ := keysOf_ok r1 hks
      refine d_notIn cx.hu1 I (.inr ⟨kvs, kk, b, .inl ho, rfl, hb, rfl⟩) rx fun s' I' => ⟨.bl _, d.H, I', rfl, ?_⟩
      rw [look_some kk hv]
      have := q _ _ _ h (.same (.bl _))
      simpa using this
  | _ => exact (show False from h).elim
end
end IL

/-! IL10: subscripts, slices, builtins, methods that read. -/
namespace IL
open PySem PySem.Spec PyProof.Rows L2

section
variable {X : Cx} {G : Gv}
/-! ### x[i] -/
def pIx : P2 := fun x i Q => match x, i with
  | .tup xs, .int j => match atI xs j with
    | some y => Q (.v y)
    | none => False
  | .lst xs, .int j => match atI xs j with
    | some y => Q (.v y)
    | none => False
  | .scr ns, .int j => match atI ns j with
    | some y => Q (.v (.int y))
    | none => False
  | .str z, .int j => z.length ≤ sizeLine ∧ match atI z.cps.toList j with
    | some c => Q (.v (.str ⟨#[c]⟩))
    | none => False
  | .well, .int j => (0 ≤ j ∧ j < 3) ∧ ∀ a : Int, 0 ≤ a → Q (.v (.int a))
  | .dK ks vs, k => match keyOf k with
    | some kk => match dLook ks vs kk with
      | some y => Q (.v y)
      | none => False
    | none => False
  | .dT ks vs, k => match keysOf k with
    | some kk => match dLook ks vs kk with
      | some y => Q (.v y)
      | none => False
    | none => False
  | _, _ => False
theorem atI_rps {W : Addr → Prop} {R : Hp} {vs : List V} {xs : List PV} (r : Rps G W R vs xs) {j : Int} {y : PV} (h : atI xs j = some y) : ∃ v, atI vs j = some v ∧ Rp G W R v y := by
  unfold atI at h ⊢
  rw [r.length]
  cases hj : ixN xs.length j with
  | none => rw [hj] at h; cases h
  | some n =>
    rw [hj] at h
    obtain ⟨v, h1, h2⟩ := r.get' n h
    exact ⟨v, h1, h2⟩
theorem ix_dictP (hu : X.A.units + 1 < cLine) : IxR X (fun x y H Q => ∃ a v, x = .ref a ∧ DGet H a y (some v) ∧ Q v H) := by
  intro value slice pins s σ H x y v u Q I rx ry ⟨a, w, ex, g, q⟩ hs
  subst ex
  obtain rfl : v = Value.ref a := rx
  exact tail_any (dict_typeIs I g) PySem.F.slot_dict_getitem.lookup (d_getItem hu I g ry fun w' s3 I3 rw' => ⟨w, H, I3, rw', q⟩) hs
theorem ir_ix {k : Nat} (cx : CxOk X G k) : IxR X fun x y H Q => rPrim G (lift2 pIx) [x, y] H Q := by
  intro value slice pins s σ H x y v u Q I rx ry ⟨d, xs, Qp, hH, ok, rs, hp, q⟩ hs
  subst hH
  obtain ⟨px, py, rfl, r1, r2, h⟩ := two_inv rs hp
  cases px with
  | tup xs =>
    cases py with
    | int j =>
      have h : (match atI xs j with | some y => Qp (.v y) | none => False) := h
      cases hx : atI xs j with
      | none => rw [hx] at h; exact h.elim
      | some y =>
        rw [hx] at h
        obtain ⟨a, vs, rfl, e1, t1⟩ := r1.tup
        cases r2.int
        obtain ⟨w, h1, h2⟩ := atI_rps t1 hx
        exact ix_tup value slice pins s σ d.H _ _ v u Q I rx ry ⟨a, vs, j, w, rfl, rfl, SqT.of (R_sub _ _ e1), h1, q _ _ _ h (.same h2)⟩ hs
    | _ => exact (show False from h).elim
  | lst xs =>
    cases py with
    | int j =>
      have h : (match atI xs j with | some y => Qp (.v y) | none => False) := h
      cases hx : atI xs j with
      | none => rw [hx] at h; exact h.elim
      | some y =>
        rw [hx] at h
        obtain ⟨a, vs, rfl, e1, t1⟩ := r1
        cases r2.int
        obtain ⟨w, h1, h2⟩ := atI_rps t1 hx
        exact ix_list value slice pins s σ d.H _ _ v u Q I rx ry ⟨a, vs, j, w, rfl, rfl, SqL.of e1, h1, q _ _ _ h (.same h2)⟩ hs
    | _ => exact (show False from h).elim
  | scr ns =>
    cases py with
    | int j =>
      have h : (match atI ns j with | some y => Qp (.v (.int y)) | none => False) := h
      cases hx : atI ns j with
      | none => rw [hx] at h; exact h.elim
      | some y =>
        rw [hx] at h
        obtain ⟨a, rfl, e1⟩ := r1.scr
        cases r2.int
        refine ix_list value slice pins s σ d.H _ _ v u Q I rx ry ⟨a, ns.map V.int, j, .int y, rfl, rfl, by rw [cx.K]; exact Same.seq R_sub e1, ?_, q _ _ _ h (.same (.int _))⟩ hs
        unfold atI at hx ⊢
        rw [List.length_map]
        cases hj : ixN ns.length j with
        | none => rw [hj] at hx; cases hx
        | some n =>
          rw [hj] at hx
          have hx : ns[n]? = some y := hx
          show (ns.map V.int)[n]? = _
          rw [List.getElem?_map, hx]
          rfl
    | _ => exact (show False from h).elim
  | well =>
    cases py with
    | int j =>
      obtain ⟨⟨h0, h3⟩, h⟩ : (0 ≤ j ∧ j < 3) ∧ ∀ a : Int, 0 ≤ a → Qp (.v (.int a)) := h
      cases r2.int
      cases (show Rp G d.W d.R x .well from r1) with
      | @well a hw =>
        obtain ⟨o, e, a0, b0, c0, ha, hb, hc, rfl⟩ := ok.wl a hw
        have key : ∃ z : Int, 0 ≤ z ∧ atI [V.int a0, .int b0, .int c0] j = some (.int z) := by
          have hj : j = 0 ∨ j = 1 ∨ j = 2 := by omega
          rcases hj with rfl | rfl | rfl
          · exact ⟨a0, ha, rfl⟩
          · exact ⟨b0, hb, rfl⟩
          · exact ⟨c0, hc, rfl⟩
        obtain ⟨z, hz, hz2⟩ := key
        exact ix_list value slice pins s σ d.H _ _ v u Q I rx ry ⟨a, _, j, _, rfl, rfl, SqL.of e, hz2, q _ _ _ (h z hz) (.same (.int _))⟩ hs
    | _ => exact (show False from h).elim
  | str z =>
    cases py with
    | int j =>
      have h : z.length ≤ sizeLine ∧ (match atI z.cps.toList j with | some c => Qp (.v (.str ⟨#[c]⟩)) | none => False) := h
      obtain ⟨hz, h⟩ := h
      cases hx : atI z.cps.toList j with
      | none => rw [hx] at h; exact h.elim
      | some c =>
        rw [hx] at h
        cases r1.str
        cases r2.int
        exact ix_str value slice pins s σ d.H _ _ v u Q I rx ry ⟨z, j, c, rfl, rfl, hz, hx, q _ _ _ h (.same (.str _))⟩ hs
    | _ => exact (show False from h).elim
  | dK ks ys =>
    obtain ⟨a, kvs, rfl, ho, rfl, hv⟩ := r1
    have h : (match keyOf py with | some kk => (match dLook (kvs.map (·.1)) ys kk with | some y => Qp (.v y) | none => False) | none => False) := by cases py <;> exact h
    cases hk : keyOf py with
    | none => rw [hk] at h; exact h.elim
    | some kk =>
      rw [hk] at h
      have h : (match dLook (kvs.map (·.1)) ys kk with | some y => Qp (.v y) | none => False) := h
      cases keyOf_ok r2 hk
      have lk := look_ok kk hv
      cases hl : valV kvs kk with
      | none => rw [hl] at lk; rw [lk] at h; exact h.elim
      | some w =>
        rw [hl] at lk
        obtain ⟨z, lz, rz⟩ := lk
        rw [lz] at h
        exact ix_dictP cx.hu1 value slice pins s σ d.H _ _ v u Q I rx ry ⟨a, w, rfl, .inl ⟨kvs, kk, ho.rd, rfl, hl.symm⟩, q _ _ _ h (.same rz)⟩ hs
  | dT ks ys =>
    obtain ⟨a, kvs, rfl, ho, rfl, hv⟩ := r1
    have h : (match keysOf py with | some kk => (match dLook (kvs.map (·.1)) ys kk with | some y => Qp (.v y) | none => False) | none => False) := by cases py <;> exact h
    cases hk : keysOf py with
    | none => rw [hk] at h; exact h.elim
    | some kk =>
      rw [hk] at h
      have h : (match dLook (kvs.map (·.1)) ys kk with | some y => Qp (.v y) | none => False) := h
      obtain ⟨b, rfl, hb⟩ := keysOf_ok r2 hk
      have lk := look_ok kk hv
      cases hl : valV kvs kk with
      | none => rw [hl] at lk; rw [lk] at h; exact h.elim
      | some w =>
        rw [hl] at lk
        obtain ⟨z, lz, rz⟩ := lk
        rw [lz] at h
        exact ix_dictP cx.hu1 value slice pins s σ d.H _ _ v u Q I rx ry ⟨a, w, rfl, .inr ⟨kvs, kk, b, .inl ho, rfl, hb, hl.symm⟩, q _ _ _ h (.same rz)⟩ hs
  | _ => exact (show False from h).elim
/-! ### x[lo:hi] -/
def cutPV (xs : List PV) (lo hi : Option Int) : List PV := (xs.drop (HT.sIx xs.length 0 lo)).take (HT.sIx xs.length xs.length hi - HT.sIx xs.length 0 lo)
def pSl (lo hi : Option Int) : P1 := fun x Q => match x with
  | .tup xs => Q (.v (.tup (cutPV xs lo hi)))
  | .lst xs => Q (.own (.lst (cutPV xs lo hi)))
  | .scr ns => ns.length ≤ sizeLine ∧ Q (.own (.lst (cutPV (ns.map .int) lo hi)))
  | .str z => z.length ≤ sizeLine ∧ Q (.v (.str (cutS z lo hi)))
  | _ => False
theorem cutPV_rps {W : Addr → Prop} {R : Hp} {vs : List V} {xs : List PV} (r : Rps G W R vs xs) (lo hi : Option Int) : Rps G W R (cutV vs lo hi) (cutPV xs lo hi) := by
  unfold cutV cutPV
  rw [r.length]
  exact (r.drop _).take _
theorem sIx_bounds (n d : Nat) (hd : d ≤ n) (o : Option Int) : HT.sIx n d o ≤ n := HT.sIx_le n d hd o
theorem cut_whole {xs : List PV} {lo hi : Option Int} (h : HT.sIx xs.length 0 lo = 0 ∧ HT.sIx xs.length xs.length hi = xs.length) : cutPV xs lo hi = xs := by
  unfold cutPV
  rw [h.1, h.2]
  simp
theorem sr_sl {k : Nat} (cx : CxOk X G k) : SlR X fun x lo hi H Q => rPrim G (lift1 (pSl lo hi)) [x] H Q := by
  intro pins s σ H x v vl vu lo hi sl Q I rx hs pl pu ⟨d, xs, Qp, hH, ok, rs, hp, q⟩
  subst hH
  obtain ⟨x', px, e, rfl, r1, h⟩ := one_inv rs hp
  cases e
  cases px with
  | tup xs =>
    obtain ⟨a, vs, rfl, e1, t1⟩ := r1.tup
    have hl := t1.length
    have hz : vs.length ≤ sizeLine := ok.sm a _ (R_sub _ _ e1)
    refine sl_tupA pins s σ d.H _ v vl vu lo hi sl Q I rx hs pl pu ⟨a, vs, rfl, SqT.of (R_sub _ _ e1), fun hw => ?_, fun _ p hp => ?_⟩
    · rw [hl] at hw
      exact q _ _ _ h (.same (.tup e1 (by rw [cut_whole hw]; exact t1)))
    · exact q _ _ _ h (.tup hp (Nat.le_trans (cutV_length _ _ _) hz) (cutPV_rps t1 lo hi))
  | lst xs =>
    obtain ⟨a, vs, rfl, e1, t1⟩ := r1
    have hz : vs.length ≤ sizeLine := ok.sm a _ e1
    exact sl_list pins s σ d.H _ v vl vu lo hi sl Q I rx hs pl pu ⟨a, vs, rfl, SqL.of e1, fun p hp => q _ _ _ h (.own (o := .lst _) hp (Nat.le_trans (cutV_length _ _ _) hz) (.lst (cutPV_rps t1 lo hi)))⟩
  | scr ns =>
    obtain ⟨a, rfl, e1⟩ := r1.scr
    have hz : (ns.map V.int).length ≤ sizeLine := by rw [List.length_map]; exact h.1
    exact sl_list pins s σ d.H _ v vl vu lo hi sl Q I rx hs pl pu ⟨a, _, rfl, by rw [cx.K]; exact Same.seq R_sub e1, fun p hp => q _ _ _ h.2 (.own (o := .lst _) hp (Nat.le_trans (cutV_length _ _ _) hz) (.lst (cutPV_rps (Rps.ints ns) lo hi)))⟩
  | str z =>
    cases r1.str
    exact sl_str pins s σ d.H _ v vl vu lo hi sl Q I rx hs pl pu ⟨z, rfl, h.1, q _ _ _ h.2 (.same (.str _))⟩
  | _ => exact (show False from h).elim
end
end IL

/-! IL11: slices as expressions, builtins by name, methods that read. -/
namespace IL
open PySem PySem.Spec PyProof.Rows L2

def partEv : Option OW → Env → (Option Int → Env → Prop) → Prop
  | none, e, K => K none e
  | some m, e, K => m e fun tv e2 => match tv.pv with
    | .int i => K (some i) e2
    | _ => False
def oSl (o : Opd) (lo hi : Option OW) : OW := fun env Q => o.ev env fun r e => partEv lo e fun l e2 => partEv hi e2 fun u e3 => match r.rd e3 with
  | some x => pSl l u x fun tv => Q tv e3
  | none => False
def partTO (G : Gv) : Option OW → TO
  | none => tNoPart
  | some m => tPart (tSO G m)
section
variable {X : Cx} {G : Gv} {k : Nat}
theorem part_run {σ : St} {d : Wd} {env : Env} (rel : Rel G d env σ) {p : Option OW} {K : Option Int → Env → Prop} {Q : Option Int → Hp → Prop} (h : partEv p env K) (q : ∀ o e d', K o e → Stp d d' → Rel G d' e σ → Q o d'.H) : partTO G p σ d.H Q := by
  cases p with
  | none => exact q none env d h (Stp.refl d) rel
  | some m => exact ⟨d, env, _, rfl, rel, h, fun tv e v d' k s p => by
      obtain ⟨rel', r⟩ := p.frz
      cases hx : tv.pv with
      | int i =>
        rw [hx] at k r
        cases r
        exact ⟨i, rfl, q _ e d' k s rel'⟩
      | _ => rw [hx] at k; exact k.elim⟩
theorem so_sl {a : Expr} {o : Opd} {lo hi : Option Expr} {pl ph : Option OW} {p2 pos : Pos} (cx : CxOk X G k) (ha : PE X a (o.te G)) (hl : PO X lo (partTO G pl)) (hh : PO X hi (partTO G ph)) : SO X G (.Subscript a (.Slice lo hi none p2) pos) (oSl o pl ph) :=
  PE.imp (pe_slice (sr_sl cx) ha hl hh) fun σ H Q ⟨d, env, Qp, hH, rel, h, q⟩ => by
    subst hH
    refine opd_run rel h fun r e v d1 k1 s1 rel1 p1 => ?_
    refine part_run rel1 k1 fun l e2 d2 k2 s2 rel2 => ?_
    refine part_run rel2 k2 fun u e3 d3 k3 s3 rel3 => ?_
    cases hx : r.rd e3 with
    | none => rw [hx] at k3; exact k3.elim
    | some x =>
      rw [hx] at k3
      have k3 : pSl l u x fun tv => Qp tv e3 := k3
      have p3 := (p1.stp s2).stp s3
      refine ⟨d3, [x], (fun tv => Qp tv e3), rfl, rel3.ok, .cons (rd_ok rel3 p3 hx) .nil, k3, fun tv w H' k4 rs => ?_⟩
      obtain ⟨d4, e4, s4, p4⟩ := rs.post rel3
      subst e4
      have s14 := s1.trans (s2.trans s3)
      exact q tv e3 w d4 k4 (s14.trans s4) (p4.from s14)
theorem po_n : PO X none (partTO G none) := po_none
theorem po_s {e : Expr} {m : OW} (h : SO X G e m) : PO X (some e) (partTO G (some m)) := po_some h

/-! ### x[::-1] of lists -/
def pRev : P1 := fun x Q => match x with
  | .lst xs => Q (.own (.lst xs.reverse))
  | _ => False

/-! ### builtins -/
theorem so_callB {x id : String} {P : PrW} {p pos : Pos} {e : Expr} {es : List Expr} {ops : List Opd} (hc : CallR X (.builtin id) (rPrim G P)) (hg : Gl X x) (hm : X.mg x = none) (hv : bootBuiltins (x : Str) = some (.builtin id)) (ha : PA X (e :: es) (opsTA G ops)) (hs : (e :: es).any isStar = false)
    (hn : (x : Str) ≠ "__name__") (hd : ((x : Str) == ("__debug__" : Str)) = false) : SO X G (.Call (.Name x p) (e :: es) [] pos) (oPrim P ops) :=
  PE.imp (pe_callB hc hg hm hv ha (hn := hn) (hdb := hd) (he := star_cons (by rw [List.any_cons, Bool.or_eq_false_iff] at hs; exact hs.1)) (hpl := star_any (by rw [List.any_cons, Bool.or_eq_false_iff] at hs; exact hs.2))) fun σ H Q ⟨d, env, Qp, hH, rel, h, q⟩ => by
    subst hH
    exact prim_run rel h q
theorem so_callTy {x id : String} {P : PrW} {p pos : Pos} {e : Expr} {es : List Expr} {ops : List Opd} (hc : CallR X (.type id) (rPrim G P)) (hg : Gl X x) (hm : X.mg x = none) (hv : bootBuiltins (x : Str) = some (.type id)) (ha : PA X (e :: es) (opsTA G ops)) (hs : (e :: es).any isStar = false)
    (hn : (x : Str) ≠ "__name__") (hd : ((x : Str) == ("__debug__" : Str)) = false) : SO X G (.Call (.Name x p) (e :: es) [] pos) (oPrim P ops) :=
  PE.imp (pe_callTy hc hg hm hv ha (hn := hn) (hdb := hd) (he := star_cons (by rw [List.any_cons, Bool.or_eq_false_iff] at hs; exact hs.1)) (hpl := star_any (by rw [List.any_cons, Bool.or_eq_false_iff] at hs; exact hs.2))) fun σ H Q ⟨d, env, Qp, hH, rel, h, q⟩ => by
    subst hH
    exact prim_run rel h q
def pLen : P1 := fun x Q => match x with
  | .str y => y.length ≤ sizeLine ∧ Q (.v (.int y.length))
  | .tup xs => Q (.v (.int xs.length))
  | .lst xs => Q (.v (.int xs.length))
  | .scr ns => Q (.v (.int ns.length))
  | _ => False
theorem cr_len (cx : CxOk X G k) : CallR X (.builtin "len") (rPrim G (lift1 pLen)) := by
  intro pins s σ H vs us Q I rv ⟨d, xs, Qp, hH, ok, rs, hp, q⟩
  subst hH
  obtain ⟨x, px, rfl, rfl, r1, h⟩ := one_inv rs hp
  cases px with
  | str y =>
    cases r1.str
    exact call_len pins s σ d.H _ us Q I rv ⟨_, y.length, rfl, ⟨h.1, rfl⟩, q _ _ _ h.2 (.same (.int _))⟩
  | tup xs =>
    obtain ⟨a, vs, rfl, e1, t1⟩ := r1.tup
    exact call_len pins s σ d.H _ us Q I rv ⟨_, vs.length, rfl, .inr ⟨vs, SqT.of (R_sub _ _ e1), rfl⟩, by rw [t1.length]; exact q _ _ _ h (.same (.int _))⟩
  | lst xs =>
    obtain ⟨a, vs, rfl, e1, t1⟩ := r1
    exact call_len pins s σ d.H _ us Q I rv ⟨_, vs.length, rfl, .inl ⟨vs, SqL.of e1, rfl⟩, by rw [t1.length]; exact q _ _ _ h (.same (.int _))⟩
  | scr ns =>
    obtain ⟨a, rfl, e1⟩ := r1.scr
    exact call_len pins s σ d.H _ us Q I rv ⟨_, (ns.map V.int).length, rfl, .inl ⟨_, by rw [cx.K]; exact Same.seq R_sub e1, rfl⟩, by rw [List.length_map]; exact q _ _ _ h (.same (.int _))⟩
  | _ => exact (show False from h).elim
/-! isinstance -/
def tyName : PV → Option String
  | .non => some "NoneType"
  | .bl _ => some "bool"
  | .int _ => some "int"
  | .str _ => some "str"
  | .tup _ => some "tuple"
  | .lst _ => some "list"
  | .scr _ => some "list"
  | .dK _ _ => some "dict"
  | .dT _ _ => some "dict"
  | _ => none
def isiT (t c : String) : Bool := t == c || (t == "bool" && c == "int")
def tyNames : List String := ["NoneType", "bool", "int", "str", "tuple", "list", "dict"]
def clsNames : List String := ["bool", "int", "str", "tuple", "list", "dict"]
theorem isiT_ok : ∀ t ∈ tyNames, ∀ c ∈ clsNames, kitB t c = some (isiT t c) := by decide +kernel
theorem tyName_mem {x : PV} {t : String} (h : tyName x = some t) : t ∈ tyNames := by
  cases x <;> cases h <;> decide
theorem tyName_ok {d : Wd} {v : V} {x : PV} {t : String} (ok : d.Ok G) (r : RpB G d v x) (h : tyName x = some t) : TyX G.K d.H v (.type t) := by
  cases x with
  | non => cases h; cases r.non; exact .base .non
  | bl b => cases h; cases r.bl; exact .base (.bl b)
  | int i => cases h; cases r.int; exact .base (.int i)
  | str z => cases h; cases r.str; exact .base (.str z)
  | tup xs => cases h; obtain ⟨a, vs, rfl, e, _⟩ := r.tup; exact .base (.tup (R_sub _ _ e))
  | lst xs => cases h; obtain ⟨a, vs, rfl, e, _⟩ := r; exact .base (.lst e)
  | scr ns =>
    cases h
    obtain ⟨a, rfl, e⟩ := r.scr
    rcases Same.seq R_sub e with (e | ⟨o, e⟩) | ⟨o, its, n, e, hc, _⟩
    · exact .base (.lst e)
    · exact .base (.frz e)
    · exact .kList e hc
  | dK ks vs =>
    cases h
    obtain ⟨a, kvs, rfl, e, _⟩ := r
    rcases e with e | ⟨_, o, e⟩
    · exact .base (.dK e)
    · exact .fDict e
  | dT ks vs =>
    cases h
    obtain ⟨a, kvs, rfl, e, _⟩ := r
    exact .base (.dT e)
  | _ => cases h
def clsOf : PV → Option (List String)
  | .ty n => if n ∈ clsNames then some [n] else none
  | .tup xs => clsL xs
  | _ => none
where clsL : List PV → Option (List String)
  | [] => some []
  | .ty n :: r => if n ∈ clsNames then (clsL r).map (n :: ·) else none
  | _ :: _ => none
def pIsi : P2 := fun x c Q => match tyName x, clsOf c with
  | some t, some cs => Q (.v (.bl (cs.any fun c => isiT t c)))
  | _, _ => False
theorem clsL_ok {W : Addr → Prop} {R : Hp} {K : PySem.W.Frag} {t : String} (ht : t ∈ tyNames) : ∀ {xs : List PV} {vs : List V} {cs : List String}, Rps G W R vs xs → clsOf.clsL xs = some cs →
    ∃ us, Paired ClsV vs us ∧ PySem.W.kitAny K (.type t) us = some (cs.any fun c => isiT t c)
  | [], _, _, .nil, h => by
    simp only [clsOf.clsL] at h
    cases h
    exact ⟨[], .nil, kitAny_nil⟩
  | x :: xs, _, cs, .cons r rs, h => by
    cases x with
    | ty n =>
      simp only [clsOf.clsL] at h
      split at h
      · rename_i hn
        cases hx : clsOf.clsL xs with
        | none => rw [hx] at h; cases h
        | some cs' =>
          rw [hx] at h
          cases h
          obtain ⟨us, p, e⟩ := clsL_ok (K := K) ht rs hx
          cases r
          refine ⟨.type n :: us, .cons (.ty n) p, kitAny_cons (b := isiT t n) (kit_ty (isiT_ok t ht n hn)) (fun hb => ?_) (fun hb => ?_)⟩
          · rw [e, List.any_cons, hb, Bool.false_or]
          · rw [List.any_cons, hb, Bool.true_or]
      · cases h
    | _ => cases h
theorem cr_isi (cx : CxOk X G k) : CallR X (.builtin "isinstance") (rPrim G (lift2 pIsi)) := by
  intro pins s σ H vs us Q I rv ⟨d, xs, Qp, hH, ok, rs, hp, q⟩
  subst hH
  obtain ⟨x, y, px, py, rfl, rfl, r1, r2, h⟩ := two_inv' rs hp
  have h : (match tyName px, clsOf py with | some t, some cs => Qp (.v (.bl (cs.any fun c => isiT t c))) | _, _ => False) := h
  cases h1 : tyName px with
  | none => rw [h1] at h; exact h.elim
  | some t =>
    cases h2 : clsOf py with
    | none => rw [h1, h2] at h; exact h.elim
    | some cs =>
      rw [h1, h2] at h
      have h5 : Qp (.v (.bl (cs.any fun c => isiT t c))) := h
      have ht := tyName_mem h1
      have hty : TyX X.K d.H x (.type t) := by rw [cx.K]; exact tyName_ok ok r1 h1
      cases py with
      | ty n =>
        simp only [clsOf] at h2
        split at h2
        · rename_i hn
          cases h2
          cases (show Rp G d.W d.R y (.ty n) from r2)
          refine call_isi pins s σ d.H _ us Q I rv ⟨x, .ty n, .type t, .type n, isiT t n, rfl, .ty n, hty, kit_ty (isiT_ok t ht n hn), ?_⟩
          have := q _ _ _ h5 (.same (.bl _))
          simpa using this
        · cases h2
      | tup ys =>
        simp only [clsOf] at h2
        obtain ⟨a, ws, rfl, e, t1⟩ := r2.tup
        obtain ⟨zs, p, e2⟩ := clsL_ok (K := X.K) ht t1 h2
        exact call_isiT pins s σ d.H _ us Q I rv ⟨x, a, ws, .type t, zs, _, rfl, R_sub _ _ e, p, hty, e2, q _ _ _ h5 (.same (.bl _))⟩
      | _ => simp [clsOf] at h2
/-! all, any, sum -/
def blsOf : List PV → Option (List Bool)
  | [] => some []
  | .bl b :: r => (blsOf r).map (b :: ·)
  | _ :: _ => none
theorem blsOf_eq : ∀ {xs : List PV} {bs : List Bool}, blsOf xs = some bs → xs = bs.map .bl
  | [], _, h => by cases h; rfl
  | x :: xs, bs, h => by
    cases x with
    | bl b =>
      simp only [blsOf] at h
      cases hx : blsOf xs with
      | none => rw [hx] at h; cases h
      | some cs =>
        rw [hx] at h
        cases h
        rw [blsOf_eq hx]
        rfl
    | _ => cases h
def pAll : P1 := fun x Q => match x with
  | .lst xs => match blsOf xs with
    | some bs => Q (.v (.bl (bs.all id)))
    | none => False
  | _ => False
def pAny : P1 := fun x Q => match x with
  | .lst xs => match blsOf xs with
    | some bs => Q (.v (.bl (bs.any id)))
    | none => False
  | _ => False
def pSum : P1 := fun x Q => match x with
  | .lst xs => match intsOf xs with
    | some ns => Q (.v (.int ns.sum))
    | none => False
  | _ => False
theorem cr_allP (cx : CxOk X G k) : CallR X (.builtin "all") (rPrim G (lift1 pAll)) := by
  intro pins s σ H vs us Q I rv ⟨d, xs, Qp, hH, ok, rs, hp, q⟩
  subst hH
  obtain ⟨x, px, rfl, rfl, r1, h⟩ := one_inv rs hp
  cases px with
  | lst xs =>
    have h : (match blsOf xs with | some bs => Qp (.v (.bl (bs.all id))) | none => False) := h
    cases hx : blsOf xs with
    | none => rw [hx] at h; exact h.elim
    | some bs =>
      rw [hx] at h
      obtain ⟨a, vs, rfl, e, t⟩ := r1
      rw [blsOf_eq hx] at t
      cases t.bls_inv
      exact cr_all cx.calm pins s σ d.H _ us Q I rv ⟨a, bs, rfl, SqL.of e, q _ _ _ h (.same (.bl _))⟩
  | _ => exact (show False from h).elim
theorem cr_anyP (cx : CxOk X G k) : CallR X (.builtin "any") (rPrim G (lift1 pAny)) := by
  intro pins s σ H vs us Q I rv ⟨d, xs, Qp, hH, ok, rs, hp, q⟩
  subst hH
  obtain ⟨x, px, rfl, rfl, r1, h⟩ := one_inv rs hp
  cases px with
  | lst xs =>
    have h : (match blsOf xs with | some bs => Qp (.v (.bl (bs.any id))) | none => False) := h
    cases hx : blsOf xs with
    | none => rw [hx] at h; exact h.elim
    | some bs =>
      rw [hx] at h
      obtain ⟨a, vs, rfl, e, t⟩ := r1
      rw [blsOf_eq hx] at t
      cases t.bls_inv
      exact cr_any cx.calm pins s σ d.H _ us Q I rv ⟨a, bs, rfl, SqL.of e, q _ _ _ h (.same (.bl _))⟩
  | _ => exact (show False from h).elim
theorem cr_sumP (cx : CxOk X G k) : CallR X (.builtin "sum") (rPrim G (lift1 pSum)) := by
  intro pins s σ H vs us Q I rv ⟨d, xs, Qp, hH, ok, rs, hp, q⟩
  subst hH
  obtain ⟨x, px, rfl, rfl, r1, h⟩ := one_inv rs hp
  cases px with
  | lst xs =>
    have h : (match intsOf xs with | some ns => Qp (.v (.int ns.sum)) | none => False) := h
    cases hx : intsOf xs with
    | none => rw [hx] at h; exact h.elim
    | some ns =>
      rw [hx] at h
      obtain ⟨a, vs, rfl, e, t⟩ := r1
      rw [intsOf_eq hx] at t
      cases t.ints_inv
      exact cr_sum cx.calm pins s σ d.H _ us Q I rv ⟨a, ns, rfl, SqL.of e, q _ _ _ h (.same (.int _))⟩
  | _ => exact (show False from h).elim
/-! max, min -/
def pMax : PrW := fun xs Q => match xs with
  | [.int i, .int j] => Q (.v (.int (if j > i then j else i)))
  | [.lst xs] => match intsOf xs with
    | some ns => ns ≠ [] ∧ ∀ m ∈ ns, (∀ y ∈ ns, y ≤ m) → Q (.v (.int m))
    | none => False
  | _ => False
def pMin : PrW := fun xs Q => match xs with
  | [.int i, .int j] => Q (.v (.int (if j < i then j else i)))
  | [.lst xs] => match intsOf xs with
    | some ns => ns ≠ [] ∧ ∀ m ∈ ns, (∀ y ∈ ns, m ≤ y) → Q (.v (.int m))
    | none => False
  | _ => False
theorem cr_maxP (cx : CxOk X G k) : CallR X (.builtin "max") (rPrim G pMax) := by
  intro pins s σ H vs us Q I rv ⟨d, xs, Qp, hH, ok, rs, h, q⟩
  subst hH
  unfold pMax at h
  split at h
  · rename_i i j
    cases rs with
    | cons r1 rs =>
      cases rs with
      | cons r2 rs =>
        cases rs
        cases r1.int
        cases r2.int
        exact call_max2 cx.calm pins s σ d.H _ us Q I rv ⟨i, j, rfl, q _ _ _ h (.same (.int _))⟩
  · rename_i xs
    cases rs with
    | cons r1 rs =>
      cases rs
      cases hx : intsOf xs with
      | none => rw [hx] at h; exact h.elim
      | some ns =>
        rw [hx] at h
        obtain ⟨a, vs, rfl, e, t⟩ := r1
        rw [intsOf_eq hx] at t
        cases t.ints_inv
        exact cr_max cx.calm pins s σ d.H _ us Q I rv ⟨a, ns, rfl, SqL.of e, List.length_pos_iff.mpr h.1, fun m hm hy => q _ _ _ (h.2 m hm hy) (.same (.int _))⟩
  · exact h.elim
theorem cr_minP (cx : CxOk X G k) : CallR X (.builtin "min") (rPrim G pMin) := by
  intro pins s σ H vs us Q I rv ⟨d, xs, Qp, hH, ok, rs, h, q⟩
  subst hH
  unfold pMin at h
  split at h
  · rename_i i j
    cases rs with
    | cons r1 rs =>
      cases rs with
      | cons r2 rs =>
        cases rs
        cases r1.int
        cases r2.int
        exact call_min2 cx.calm pins s σ d.H _ us Q I rv ⟨i, j, rfl, q _ _ _ h (.same (.int _))⟩
  · rename_i xs
    cases rs with
    | cons r1 rs =>
      cases rs
      cases hx : intsOf xs with
      | none => rw [hx] at h; exact h.elim
      | some ns =>
        rw [hx] at h
        obtain ⟨a, vs, rfl, e, t⟩ := r1
        rw [intsOf_eq hx] at t
        cases t.ints_inv
        exact cr_min cx.calm pins s σ d.H _ us Q I rv ⟨a, ns, rfl, SqL.of e, List.length_pos_iff.mpr h.1, fun m hm hy => q _ _ _ (h.2 m hm hy) (.same (.int _))⟩
  · exact h.elim
/-! int, str, abs -/
def pAbs : P1 := fun x Q => match x with
  | .int i => Q (.v (.int (if i < 0 then -i else i)))
  | _ => False
def pInt : P1 := fun x Q => match x with
  | .int i => Q (.v (.int i))
  | .bl b => Q (.v (.int (if b then 1 else 0)))
  | .str a => a.length ≤ 640 ∧ match PySem.intText? a with
    | some n => Q (.v (.int n))
    | none => False
  | _ => False
def pStr : P1 := fun x Q => match x with
  | .int i => i.natAbs.log2 < 1920 ∧ Q (.v (.str (toString i)))
  | .str a => Q (.v (.str a))
  | _ => False
theorem cr_absP : CallR X (.builtin "abs") (rPrim G (lift1 pAbs)) := by
  intro pins s σ H vs us Q I rv ⟨d, xs, Qp, hH, ok, rs, hp, q⟩
  subst hH
  obtain ⟨x, px, rfl, rfl, r1, h⟩ := one_inv rs hp
  cases px with
  | int i => cases r1.int; exact call_abs pins s σ d.H _ us Q I rv ⟨i, rfl, q _ _ _ h (.same (.int _))⟩
  | _ => exact (show False from h).elim
theorem cr_intP : CallR X (.type "int") (rPrim G (lift1 pInt)) := by
  intro pins s σ H vs us Q I rv ⟨d, xs, Qp, hH, ok, rs, hp, q⟩
  subst hH
  obtain ⟨x, px, rfl, rfl, r1, h⟩ := one_inv rs hp
  cases px with
  | int i => cases r1.int; exact call_int1 pins s σ d.H _ us Q I rv (.inl ⟨i, rfl, q _ _ _ h (.same (.int _))⟩)
  | bl b => cases r1.bl; exact call_int1 pins s σ d.H _ us Q I rv (.inr ⟨b, rfl, q _ _ _ h (.same (.int _))⟩)
  | str a =>
    cases r1.str
    have h : a.length ≤ 640 ∧ (match PySem.intText? a with | some n => Qp (.v (.int n)) | none => False) := h
    obtain ⟨hl, h⟩ := h
    cases hx : PySem.intText? a with
    | none => rw [hx] at h; exact h.elim
    | some n =>
      rw [hx] at h
      exact call_int_str pins s σ d.H _ us Q I rv ⟨a, n, rfl, hx, hl, q _ _ _ h (.same (.int _))⟩
  | _ => exact (show False from h).elim
theorem cr_strP : CallR X (.type "str") (rPrim G (lift1 pStr)) := by
  intro pins s σ H vs us Q I rv ⟨d, xs, Qp, hH, ok, rs, hp, q⟩
  subst hH
  obtain ⟨x, px, rfl, rfl, r1, h⟩ := one_inv rs hp
  cases px with
  | int i => cases r1.int; exact call_str_int pins s σ d.H _ us Q I rv ⟨i, rfl, h.1, q _ _ _ h.2 (.same (.str _))⟩
  | str a => cases r1.str; exact SkE.call_str_str pins s σ d.H _ us Q I rv ⟨a, rfl, q _ _ _ h (.same (.str _))⟩
  | _ => exact (show False from h).elim
/-! tuple(x), list(x) -/
def pTuple : P1 := fun x Q => match x with
  | .lst xs => Q (.v (.tup xs))
  | .tup xs => Q (.v (.tup xs))
  | _ => False
def pList : P1 := fun x Q => match x with
  | .lst xs => Q (.own (.lst xs))
  | .tup xs => Q (.own (.lst xs))
  | .scr ns => ns.length ≤ sizeLine ∧ Q (.own (.lst (ns.map .int)))
  | _ => False
theorem cr_tupleP (cx : CxOk X G k) : CallR X (.type "tuple") (rPrim G (lift1 pTuple)) := by
  intro pins s σ H vs us Q I rv ⟨d, xs, Qp, hH, ok, rs, hp, q⟩
  subst hH
  obtain ⟨x, px, rfl, rfl, r1, h⟩ := one_inv rs hp
  cases px with
  | lst xs =>
    obtain ⟨a, vs, rfl, e, t⟩ := r1
    exact call_tuple_of pins s σ d.H _ us Q I rv ⟨a, vs, rfl, .inl ⟨SqL.of e, fun p hp => q _ _ _ h (.tup hp (ok.sm a _ e) t)⟩⟩
  | tup xs =>
    obtain ⟨a, vs, rfl, e, t⟩ := r1.tup
    exact call_tuple_of pins s σ d.H _ us Q I rv ⟨a, vs, rfl, .inr ⟨SqT.of (R_sub _ _ e), q _ _ _ h (.same (.tup e t))⟩⟩
  | _ => exact (show False from h).elim
theorem cr_listP (cx : CxOk X G k) : CallR X (.type "list") (rPrim G (lift1 pList)) := by
  intro pins s σ H vs us Q I rv ⟨d, xs, Qp, hH, ok, rs, hp, q⟩
  subst hH
  obtain ⟨x, px, rfl, rfl, r1, h⟩ := one_inv rs hp
  cases px with
  | lst xs =>
    obtain ⟨a, vs, rfl, e, t⟩ := r1
    exact call_list_of pins s σ d.H _ us Q I rv ⟨a, vs, rfl, .inl (SqL.of e), fun p hp => q _ _ _ h (.own (o := .lst vs) hp (ok.sm a _ e) (.lst t))⟩
  | tup xs =>
    obtain ⟨a, vs, rfl, e, t⟩ := r1.tup
    have hz : vs.length ≤ sizeLine := ok.sm a _ (R_sub _ _ e)
    exact call_list_of pins s σ d.H _ us Q I rv ⟨a, vs, rfl, .inr (SqT.of (R_sub _ _ e)), fun p hp => q _ _ _ h (.own (o := .lst vs) hp hz (.lst t))⟩
  | scr ns =>
    obtain ⟨a, rfl, e⟩ := r1.scr
    exact call_list_of pins s σ d.H _ us Q I rv ⟨a, _, rfl, .inl (by rw [cx.K]; exact Same.seq R_sub e), fun p hp => q _ _ _ h.2 (.own (o := .lst _) hp (by show (ns.map V.int).length ≤ sizeLine; rw [List.length_map]; exact h.1) (.lst (Rps.ints ns)))⟩
  | _ => exact (show False from h).elim
end
end IL

/-! IL12: sorted, list(range), methods that read, dicts made, stores by place. -/
namespace IL
open PySem PySem.Spec PyProof.Rows L2

section
variable {X : Cx} {G : Gv} {k : Nat}
/-! ### sorted -/
def pairPV (p : Int × Int) : PV := .tup [.int p.1, .int p.2]
def pairsPV : List PV → Option (List (Int × Int))
  | [] => some []
  | .tup [.int i, .int j] :: r => (pairsPV r).map ((i, j) :: ·)
  | _ :: _ => none
theorem pairsPV_eq : ∀ {xs : List PV} {ps : List (Int × Int)}, pairsPV xs = some ps → xs = ps.map pairPV
  | [], _, h => by cases h; rfl
  | x :: xs, ps, h => by
    unfold pairsPV at h
    split at h
    · rename_i e
      cases e
    · rename_i i j r e
      cases e
      cases hx : pairsPV xs with
      | none => rw [hx] at h; cases h
      | some cs =>
        rw [hx] at h
        cases h
        rw [pairsPV_eq hx]
        rfl
    · cases h
def lexLe (p q : Int × Int) : Prop := p.1 < q.1 ∨ (p.1 = q.1 ∧ p.2 ≤ q.2)
def pSorted : P1 := fun x Q => match x with
  | .lst xs => match intsOf xs with
    | some ns => ∀ ms : List Int, ms.Perm ns → ms.Pairwise (· ≤ ·) → Q (.own (.lst (ms.map .int)))
    | none => match pairsPV xs with
      | some ps => ∀ qs : List (Int × Int), qs.Perm ps → qs.Pairwise lexLe → Q (.own (.lst (qs.map pairPV)))
      | none => False
  | _ => False
noncomputable def pairKey (R : Hp) (v : V) : Int × Int := match v with
  | .ref a => match R a with
    | some (.tup [.int i, .int j]) => (i, j)
    | _ => (0, 0)
  | _ => (0, 0)
theorem pairKey_ok {W : Addr → Prop} {R : Hp} {v : V} {p : Int × Int} (r : Rp G W R v (pairPV p)) : pairKey R v = p ∧ ∃ t, v = .ref t ∧ R t = some (.tup [.int p.1, .int p.2]) := by
  cases r with
  | @tup a vs xs e t =>
    cases t with
    | cons r1 t =>
      cases t with
      | cons r2 t =>
        cases t
        cases r1
        cases r2
        refine ⟨?_, a, rfl, e⟩
        unfold pairKey
        simp only [e]
theorem pairKeys : ∀ {W : Addr → Prop} {R : Hp} {vs : List V} {ps : List (Int × Int)}, Rps G W R vs (ps.map pairPV) → vs.map (pairKey R) = ps
  | _, _, _, [], .nil => rfl
  | _, _, _, p :: ps, .cons r t => by
    rw [List.map_cons, (pairKey_ok r).1, pairKeys t]
theorem rps_of_all {W : Addr → Prop} {R : Hp} {f : V → PV} : ∀ {vs : List V}, (∀ v ∈ vs, Rp G W R v (f v)) → Rps G W R vs (vs.map f)
  | [], _ => .nil
  | v :: vs, h => .cons (h v (by simp)) (rps_of_all fun u hu => h u (by simp [hu]))
theorem cr_sortedQ (cx : CxOk X G k) : CallR X (.builtin "sorted") (rPrim G (lift1 pSorted)) := by
  intro pins s σ H vs us Q I rv ⟨d, xs, Qp, hH, ok, rs, hp, q⟩
  subst hH
  obtain ⟨x, px, rfl, rfl, r1, h⟩ := one_inv rs hp
  cases px with
  | lst xs =>
    obtain ⟨a, vs, rfl, e, t⟩ := r1
    have hz : vs.length ≤ sizeLine := ok.sm a _ e
    have h : (match intsOf xs with
      | some ns => ∀ ms : List Int, ms.Perm ns → ms.Pairwise (· ≤ ·) → Qp (.own (.lst (ms.map .int)))
      | none => match pairsPV xs with
        | some ps => ∀ qs : List (Int × Int), qs.Perm ps → qs.Pairwise lexLe → Qp (.own (.lst (qs.map pairPV)))
        | none => False) := h
    cases hx : intsOf xs with
    | some ns =>
      rw [hx] at h
      have h : ∀ ms : List Int, ms.Perm ns → ms.Pairwise (· ≤ ·) → Qp (.own (.lst (ms.map .int))) := h
      rw [intsOf_eq hx] at t
      cases t.ints_inv
      refine cr_sortedI pins s σ d.H _ us Q I rv ⟨a, ns, rfl, SqL.of e, fun ms p hm hs hp => q _ _ _ (h ms hm hs) (.own (o := .lst _) hp ?_ (.lst (Rps.ints ms)))⟩
      show (ms.map V.int).length ≤ sizeLine
      rw [List.length_map, hm.length_eq]
      simpa using hz
    | none =>
      rw [hx] at h
      cases hy : pairsPV xs with
      | none => rw [hy] at h; exact h.elim
      | some ps =>
        rw [hy] at h
        have h : ∀ qs : List (Int × Int), qs.Perm ps → qs.Pairwise lexLe → Qp (.own (.lst (qs.map pairPV))) := h
        rw [pairsPV_eq hy] at t
        have hk := pairKeys t
        have hall : ∀ v ∈ vs, Rp G d.W d.R v (pairPV (pairKey d.R v)) := fun v hv => by
          obtain ⟨px, hp, r⟩ := t.mem hv
          obtain ⟨p, _, rfl⟩ := List.mem_map.mp hp
          rw [(pairKey_ok r).1]
          exact r
        refine cr_sortedPO pins s σ d.H _ us Q I rv ⟨a, vs, pairKey d.R, rfl, SqL.of e, fun v hv => ?_, fun ys p h1 h2 hp => ?_⟩
        · obtain ⟨_, t', e1, e2⟩ := pairKey_ok (hall v hv)
          exact ⟨t', e1, R_sub _ _ e2⟩
        · have hr : Rps G d.W d.R ys ((ys.map (pairKey d.R)).map pairPV) := by
            rw [List.map_map]
            exact rps_of_all fun v hv => hall v (h2.perm.mem_iff.mp hv)
          refine q _ _ _ (h (ys.map (pairKey d.R)) (by rw [← hk]; exact h2.perm.map _) ?_) (.own (o := .lst ys) hp (by show ys.length ≤ _; rw [h2.perm.length_eq]; exact hz) (.lst hr))
          refine List.pairwise_map.mpr (h1.imp fun {u v} z => ?_)
          have z := SrtO.lexB_no.mp z
          unfold lexLe
          omega
  | _ => exact (show False from h).elim
/-! ### list(range(..)), tuple(range(..)) -/
theorem rgV_rps {W : Addr → Prop} {R : Hp} (a b : Int) : Rps G W R (rgV a b) (rangePV a (b - a).toNat) := by
  unfold rgV rangePV
  generalize List.range (b - a).toNat = l
  induction l with
  | nil => exact .nil
  | cons i l ih => exact .cons (.int _) ih
def rgW (w : IW) : Bool → OW := fun tup env Q => w env fun xs e => xs.length ≤ sizeLine ∧ Q (if tup then .v (.tup xs) else .own (.lst xs)) e
theorem rng_line {a b : Int} (h : (rangePV a (b - a).toNat).length ≤ sizeLine) : (b - a).toNat ≤ 2 ^ 24 := by
  have : sizeLine = 16777216 := sizeLine_eq
  simp only [rangePV, List.length_map, List.length_range] at h
  omega
theorem so_listRg1 {a : Expr} {m : OW} {p p2 pos pos2 : Pos} (cx : CxOk X G k) (h : SO X G a m) (hs : isStar a = false) (hg : Gl X "list") (hm : X.mg "list" = none) (hg2 : Gl X "range") (hm2 : X.mg "range" = none) : SO X G (.Call (.Name "list" p) [.Call (.Name "range" p2) [a] [] pos2] [] pos) (rgW (iRange1 m) false) :=
  PE.imp (pe_listRg cx.calm hg hm (prg_1 hg2 hm2 h (na := star_cons hs)) (na := rfl)) fun σ H Q ⟨d, env, Qp, hH, rel, h, q⟩ => ⟨d, env, _, hH, rel, h, fun tv e v d' k s p => by
    obtain ⟨rel', r⟩ := p.frz
    cases hx : tv.pv with
    | int j =>
      rw [hx] at k r
      cases r
      obtain ⟨⟨h1, h2⟩, hz, k⟩ := k
      have hz' : (rgV 0 j).length ≤ sizeLine := by rw [rgV_length]; simpa [rangePV] using hz
      refine ⟨j, rfl, ⟨by decide, by decide, h1, h2, by have := rng_line (a := 0) (b := j) (by simpa using hz); exact this⟩, fun p hp => ?_⟩
      obtain ⟨d2, e2, s2, po⟩ := (Res.own (o := .lst (rgV 0 j)) hp hz' (.lst (rgV_rps 0 j))).post rel'
      rw [← e2]
      have e3 : (j - 0).toNat = j.toNat := by simp
      rw [e3] at po
      exact q _ _ _ d2 k (s.trans s2) (po.from s)
    | _ => rw [hx] at k; exact k.elim⟩
theorem so_tupRg1 {a : Expr} {m : OW} {p p2 pos pos2 : Pos} (cx : CxOk X G k) (h : SO X G a m) (hs : isStar a = false) (hg : Gl X "tuple") (hm : X.mg "tuple" = none) (hg2 : Gl X "range") (hm2 : X.mg "range" = none) : SO X G (.Call (.Name "tuple" p) [.Call (.Name "range" p2) [a] [] pos2] [] pos) (rgW (iRange1 m) true) :=
  PE.imp (pe_tupRg cx.calm hg hm (prg_1 hg2 hm2 h (na := star_cons hs)) (na := rfl)) fun σ H Q ⟨d, env, Qp, hH, rel, h, q⟩ => ⟨d, env, _, hH, rel, h, fun tv e v d' k s p => by
    obtain ⟨rel', r⟩ := p.frz
    cases hx : tv.pv with
    | int j =>
      rw [hx] at k r
      cases r
      obtain ⟨⟨h1, h2⟩, hz, k⟩ := k
      have hz' : (rgV 0 j).length ≤ sizeLine := by rw [rgV_length]; simpa [rangePV] using hz
      refine ⟨j, rfl, ⟨by decide, by decide, h1, h2, by have := rng_line (a := 0) (b := j) (by simpa using hz); exact this⟩, fun p hp => ?_⟩
      obtain ⟨d2, e2, s2, po⟩ := (Res.tup hp hz' (rgV_rps 0 j)).post rel'
      rw [← e2]
      have e3 : (j - 0).toNat = j.toNat := by simp
      rw [e3] at po
      exact q _ _ _ d2 k (s.trans s2) (po.from s)
    | _ => rw [hx] at k; exact k.elim⟩
theorem so_listRg2 {a b : Expr} {m u : OW} {p p2 pos pos2 : Pos} (cx : CxOk X G k) (h : SO X G a m) (h2 : SO X G b u) (hs : isStar a = false) (hs2 : isStar b = false) (hg : Gl X "list") (hm : X.mg "list" = none) (hg2 : Gl X "range") (hm2 : X.mg "range" = none) : SO X G (.Call (.Name "list" p) [.Call (.Name "range" p2) [a, b] [] pos2] [] pos) (rgW (iRange2 m u) false) :=
  PE.imp (pe_listRg cx.calm hg hm (prg_2 hg2 hm2 h h2 (na := star_cons hs) (nb := star_cons hs2) (hp := by rw [star_cons hs2]; rfl)) (na := rfl)) fun σ H Q ⟨d, env, Qp, hH, rel, h, q⟩ => ⟨d, env, _, hH, rel, h, fun tv e v d1 k1 s1 p1 => by
    obtain ⟨rel1, r1⟩ := p1.frz
    refine ⟨d1, e, _, rfl, rel1, k1, fun tv2 e2 v2 d2 k2 s2 p2 => ?_⟩
    obtain ⟨rel2, r2⟩ := p2.frz
    cases hx : tv.pv with
    | int i =>
      cases hy : tv2.pv with
      | int j =>
        rw [hx, hy] at k2
        rw [hx] at r1
        rw [hy] at r2
        cases r1
        cases r2
        obtain ⟨⟨h1, h2, h3, h4⟩, hz, k⟩ := k2
        have hz' : (rgV i j).length ≤ sizeLine := by rw [rgV_length]; simpa [rangePV] using hz
        refine ⟨i, j, rfl, rfl, ⟨h1, h2, h3, h4, rng_line hz⟩, fun p hp => ?_⟩
        obtain ⟨d3, e3, s3, po⟩ := (Res.own (o := .lst (rgV i j)) hp hz' (.lst (rgV_rps i j))).post rel2
        rw [← e3]
        exact q _ _ _ d3 k (s1.trans (s2.trans s3)) (po.from (s1.trans s2))
      | _ => rw [hx, hy] at k2; exact k2.elim
    | _ => rw [hx] at k2; exact k2.elim⟩
/-! ### methods of texts -/
def isStrPV : PV → Bool
  | .str _ => true
  | _ => false
def oMeth (P : PrW) (o : Opd) (os : List Opd) : OW := fun env Q => o.ev env fun r e => (match r.rd e with | some x => isStrPV x = true | none => False) ∧ evOps os e fun rs e2 => match rdAll e2 (r :: rs) with
  | some xs => P xs fun tv => Q tv e2
  | none => False
theorem meth_run {P : PrW} {o : Opd} {os : List Opd} {σ : St} {d : Wd} {env : Env} {Qp : TV → Env → Prop} {Q : VK} (rel : Rel G d env σ) (h : oMeth P o os env Qp) (q : ∀ tv env' v d', Qp tv env' → Stp d d' → Post G d d' env' σ tv v → Q v d'.H) :
    tBM X.K "str" (fun x xs H Q => rPrim G P (x :: xs) H Q) (o.te G) (opsTA G os) σ d.H Q :=
  opd_run rel h fun r e v d1 ⟨k0, k1⟩ s1 rel1 p1 => by
    refine ⟨?_, ops_run rel1 k1 fun rs e2 vs d2 k2 s2 rel2 p2 => ?_⟩
    · cases hx : r.rd e with
      | none => rw [hx] at k0; exact k0.elim
      | some x =>
        rw [hx] at k0
        have b := rd_ok rel1 p1 hx
        cases x with
        | str z => cases b.str; exact rfl
        | _ => cases k0
    · cases hx : rdAll e2 (r :: rs) with
      | none => rw [hx] at k2; exact k2.elim
      | some xs =>
        rw [hx] at k2
        refine ⟨d2, xs, _, rfl, rel2.ok, rdAll_ok rel2 (.cons (p1.stp s2) p2) hx, k2, fun tv w H' k3 rr => ?_⟩
        obtain ⟨d3, e3, s3, po⟩ := rr.post rel2
        subst e3
        have s12 := s1.trans s2
        exact q tv e2 w d3 k3 (s12.trans s3) (po.from s12)
theorem so_meth1 {id : String} {name : Str} {P : PrW} {x e : Expr} {o oe : Opd} {apos cpos : Pos} (slot : Slot "str" name id) (hty : typeOf (.builtin id) = pure (.type "method_descriptor")) (hm : MtR X id fun x xs H Q => rPrim G P (x :: xs) H Q) (hx : PE X x (o.te G)) (he : PE X e (oe.te G)) (hb : noSup x = true) (hs : isStar e = false) (hl : (apos.endLine == cpos.line) = true) :
    SO X G (.Call (.Attribute x name apos) [e] [] cpos) (oMeth P o [oe]) :=
  PE.imp (pe_meth1 PySem.F.plainAttrs_str slot hty hm hx he hb hs hl) fun σ H Q ⟨d, env, Qp, hH, rel, h, q⟩ => by
    subst hH
    exact meth_run rel h q
def strsOf : List PV → Option (List Str)
  | [] => some []
  | .str z :: r => (strsOf r).map (z :: ·)
  | _ :: _ => none
theorem strsOf_eq : ∀ {xs : List PV} {zs : List Str}, strsOf xs = some zs → xs = zs.map .str
  | [], _, h => by cases h; rfl
  | x :: xs, bs, h => by
    cases x with
    | str b =>
      simp only [strsOf] at h
      cases hx : strsOf xs with
      | none => rw [hx] at h; cases h
      | some cs =>
        rw [hx] at h
        cases h
        rw [strsOf_eq hx]
        rfl
    | _ => cases h
def pJoin : P2 := fun x y Q => match x, y with
  | .str a, .lst xs => match strsOf xs with
    | some zs => (zs.map (·.length)).sum + zs.length * a.length ≤ 16777216 ∧ Q (.v (.str (Txt.join a zs)))
    | none => False
  | .str a, .tup xs => match strsOf xs with
    | some zs => (zs.map (·.length)).sum + zs.length * a.length ≤ 16777216 ∧ Q (.v (.str (Txt.join a zs)))
    | none => False
  | _, _ => False
def pSplit : P2 := fun x y Q => match x, y with
  | .str a, .str b => (b.length == 0) = false ∧ a.length + 2 ≤ sizeLine ∧ (Txt.split a b).length ≤ sizeLine ∧ Q (.own (.lst ((Txt.split a b).map .str)))
  | _, _ => False
def pEnds : P2 := fun x y Q => match x, y with
  | .str a, .str b => Q (.v (.bl (Txt.endswith a b)))
  | _, _ => False
theorem two_invM {d : Wd} {P : P2} {x : V} {vs : List V} {xs : List PV} {Qp : TV → Prop} (r : RpBs G d (x :: vs) xs) (h : lift2 P xs Qp) : ∃ y px py, vs = [y] ∧ xs = [px, py] ∧ RpB G d x px ∧ RpB G d y py ∧ P px py Qp := by
  obtain ⟨x', y, px, py, e, e2, r1, r2, h⟩ := two_inv' r h
  cases e
  exact ⟨y, px, py, rfl, e2, r1, r2, h⟩
theorem mt_joinP (cx : CxOk X G k) : MtR X "str.join" fun x xs H Q => rPrim G (lift2 pJoin) (x :: xs) H Q := by
  intro pins s σ H x vs v us Q I rx rv ⟨d, xs, Qp, hH, ok, rs, hp, q⟩
  subst hH
  obtain ⟨y, px, py, rfl, rfl, r1, r2, h⟩ := two_invM rs hp
  cases px with
  | str a =>
    cases r1.str
    cases py with
    | lst xs =>
      have h : (match strsOf xs with | some zs => (zs.map (·.length)).sum + zs.length * a.length ≤ 16777216 ∧ Qp (.v (.str (Txt.join a zs))) | none => False) := h
      cases hx : strsOf xs with
      | none => rw [hx] at h; exact h.elim
      | some zs =>
        rw [hx] at h
        obtain ⟨b, ws, rfl, e, t⟩ := r2
        rw [strsOf_eq hx] at t
        cases t.strs_inv
        exact mt_join pins s σ d.H _ _ v us Q I rx rv ⟨a, b, zs, rfl, rfl, .inl (SqL.of e), h.1, q _ _ _ h.2 (.same (.str _))⟩
    | tup xs =>
      have h : (match strsOf xs with | some zs => (zs.map (·.length)).sum + zs.length * a.length ≤ 16777216 ∧ Qp (.v (.str (Txt.join a zs))) | none => False) := h
      cases hx : strsOf xs with
      | none => rw [hx] at h; exact h.elim
      | some zs =>
        rw [hx] at h
        obtain ⟨b, ws, rfl, e, t⟩ := r2.tup
        rw [strsOf_eq hx] at t
        cases t.strs_inv
        exact mt_join pins s σ d.H _ _ v us Q I rx rv ⟨a, b, zs, rfl, rfl, .inr (SqT.of (R_sub _ _ e)), h.1, q _ _ _ h.2 (.same (.str _))⟩
    | _ => exact (show False from h).elim
  | _ => exact (show False from h).elim
theorem mt_splitP (cx : CxOk X G k) : MtR X "str.split" fun x xs H Q => rPrim G (lift2 pSplit) (x :: xs) H Q := by
  intro pins s σ H x vs v us Q I rx rv ⟨d, xs, Qp, hH, ok, rs, hp, q⟩
  subst hH
  obtain ⟨y, px, py, rfl, rfl, r1, r2, h⟩ := two_invM rs hp
  cases px with
  | str a =>
    cases r1.str
    cases py with
    | str b =>
      cases r2.str
      exact mt_split pins s σ d.H _ _ v us Q I rx rv ⟨a, b, rfl, rfl, h.1, h.2.1, fun p hp => q _ _ _ h.2.2.2 (.own (o := .lst _) hp (by show ((Txt.split a b).map V.str).length ≤ _; rw [List.length_map]; exact h.2.2.1) (.lst (Rps.strs _)))⟩
    | _ => exact (show False from h).elim
  | _ => exact (show False from h).elim
theorem mt_endsP (cx : CxOk X G k) : MtR X "str.endswith" fun x xs H Q => rPrim G (lift2 pEnds) (x :: xs) H Q := by
  intro pins s σ H x vs v us Q I rx rv ⟨d, xs, Qp, hH, ok, rs, hp, q⟩
  subst hH
  obtain ⟨y, px, py, rfl, rfl, r1, r2, h⟩ := two_invM rs hp
  cases px with
  | str a =>
    cases r1.str
    cases py with
    | str b =>
      cases r2.str
      exact mt_endswith pins s σ d.H _ _ v us Q I rx rv ⟨a, b, rfl, rfl, q _ _ _ h (.same (.bl _))⟩
    | _ => exact (show False from h).elim
  | _ => exact (show False from h).elim
/-! ### d.get(k), d.get(k, x) -/
def dAny : PV → PV → Option (Option PV)
  | .dK ks vs, x => (keyOf x).map (dLook ks vs)
  | .dT ks vs, x => (keysOf x).map (dLook ks vs)
  | _, _ => none
def isDct : PV → Bool
  | .dK _ _ => true
  | .dT _ _ => true
  | _ => false
def OptR (G : Gv) (d : Wd) : Option V → Option PV → Prop
  | some u, some z => Rp G d.W d.R u z
  | none, none => True
  | _, _ => False
theorem OptR.som {d : Wd} {o : Option V} {z : PV} (h : OptR G d o (some z)) : ∃ u, o = some u ∧ Rp G d.W d.R u z := by
  cases o with
  | none => exact h.elim
  | some u => exact ⟨u, rfl, h⟩
theorem OptR.non {d : Wd} {o : Option V} (h : OptR G d o none) : o = none := by
  cases o with
  | none => rfl
  | some u => exact h.elim
theorem dAny_ok {d : Wd} {v w : V} {D x : PV} {res : Option PV} (r : RpB G d v D) (r2 : RpB G d w x) (h : dAny D x = some res) : ∃ a o, v = .ref a ∧ DGet d.H a w o ∧ OptR G d o res := by
  cases D with
  | dK ks vs =>
    obtain ⟨a, kvs, rfl, ho, rfl, hv⟩ := r
    simp only [dAny] at h
    cases hk : keyOf x with
    | none => rw [hk] at h; cases h
    | some kk =>
      rw [hk] at h
      cases h
      cases keyOf_ok r2 hk
      refine ⟨a, valV kvs kk, rfl, .inl ⟨kvs, kk, ho.rd, rfl, rfl⟩, ?_⟩
      have lk := look_ok kk hv
      cases hl : valV kvs kk with
      | none => rw [hl] at lk; rw [lk]; exact True.intro
      | some u => rw [hl] at lk; obtain ⟨z, lz, rz⟩ := lk; rw [lz]; exact rz
  | dT ks vs =>
    obtain ⟨a, kvs, rfl, ho, rfl, hv⟩ := r
    simp only [dAny] at h
    cases hk : keysOf x with
    | none => rw [hk] at h; cases h
    | some kk =>
      rw [hk] at h
      cases h
      obtain ⟨b, rfl, hb⟩ := keysOf_ok r2 hk
      refine ⟨a, valV kvs kk, rfl, .inr ⟨kvs, kk, b, .inl ho, rfl, hb, rfl⟩, ?_⟩
      have lk := look_ok kk hv
      cases hl : valV kvs kk with
      | none => rw [hl] at lk; rw [lk]; exact True.intro
      | some u => rw [hl] at lk; obtain ⟨z, lz, rz⟩ := lk; rw [lz]; exact rz
  | _ => cases h
theorem isD_of {d : Wd} {v : V} {D : PV} (r : RpB G d v D) (h : isDct D = true) : ∃ a, v = .ref a ∧ IsD d.H a := by
  cases D with
  | dK ks vs => obtain ⟨a, kvs, rfl, ho, _⟩ := r; exact ⟨a, rfl, .inl ⟨kvs, ho.rd⟩⟩
  | dT ks vs => obtain ⟨a, kvs, rfl, ho, _⟩ := r; exact ⟨a, rfl, .inr ⟨kvs, .inl ho⟩⟩
  | _ => cases h
def oGet1 (o : Opd) (m : OW) : OW := fun env Q => o.ev env fun r e => (match r.rd e with | some x => isDct x = true | none => False) ∧ m e fun tv e2 => match r.rd e2 with
  | some D => match dAny D tv.pv with
    | some (some z) => Q (.v z) e2
    | some none => Q (.v .non) e2
    | none => False
  | none => False
def oGet2 (o : Opd) (m u : OW) : OW := fun env Q => o.ev env fun r e => (match r.rd e with | some x => isDct x = true | none => False) ∧ m e fun tv e2 => u e2 fun tv2 e3 => match r.rd e3 with
  | some D => match dAny D tv.pv with
    | some (some z) => Q (.v z) e3
    | some none => Q (.v tv2.pv) e3
    | none => False
  | none => False
theorem so_get1 {x e : Expr} {o : Opd} {m : OW} {apos cpos : Pos} (cx : CxOk X G k) (hx : PE X x (o.te G)) (he : SO X G e m) (hb : noSup x = true) (hs : isStar e = false) (hl : (apos.endLine == cpos.line) = true) : SO X G (.Call (.Attribute x "get" apos) [e] [] cpos) (oGet1 o m) :=
  PE.imp (pe_dget1 cx.hu1 hx he ⟨attrBase hb, by rw [star_cons hs]; rfl, hl, by rw [star_cons hs]; rfl⟩) fun σ H Q ⟨d, env, Qp, hH, rel, h, q⟩ => by
    subst hH
    refine opd_run rel h fun r e v d1 ⟨k0, k1⟩ s1 rel1 p1 => ?_
    cases hx : r.rd e with
    | none => rw [hx] at k0; exact k0.elim
    | some D =>
      rw [hx] at k0
      obtain ⟨a, rfl, hD⟩ := isD_of (rd_ok rel1 p1 hx) k0
      refine ⟨a, rfl, hD, d1, e, _, rfl, rel1, k1, fun tv e2 w d2 k2 s2 p2 => ?_⟩
      obtain ⟨rel2, r2⟩ := p2.frz
      cases hy : r.rd e2 with
      | none => rw [hy] at k2; exact k2.elim
      | some D2 =>
        rw [hy] at k2
        have k2 : (match dAny D2 tv.pv with | some (some z) => Qp (.v z) e2 | some none => Qp (.v .non) e2 | none => False) := k2
        cases hz : dAny D2 tv.pv with
        | none => rw [hz] at k2; exact k2.elim
        | some res =>
          obtain ⟨a', oo, ea, g, m⟩ := dAny_ok (rd_ok rel2 (p1.stp s2) hy) (Rp.b r2) hz
          cases ea
          rw [hz] at k2
          cases res with
          | none => cases m.non; exact ⟨none, g, q _ e2 _ d2 k2 (s1.trans s2) (.v rel2 .non)⟩
          | some z =>
            obtain ⟨u, rfl, ru⟩ := m.som
            exact ⟨some u, g, q _ e2 _ d2 k2 (s1.trans s2) (.v rel2 ru)⟩
theorem so_get2 {x e f : Expr} {o : Opd} {m u : OW} {apos cpos : Pos} (cx : CxOk X G k) (hx : PE X x (o.te G)) (he : SO X G e m) (hf : SO X G f u) (hb : noSup x = true) (hs : isStar e = false) (hs2 : isStar f = false) (hl : (apos.endLine == cpos.line) = true) : SO X G (.Call (.Attribute x "get" apos) [e, f] [] cpos) (oGet2 o m u) :=
  PE.imp (pe_dget2 cx.hu1 hx he hf ⟨attrBase hb, by rw [star_cons hs, star_cons hs2]; rfl, hl, by rw [star_cons hs, star_cons hs2]; rfl⟩) fun σ H Q ⟨d, env, Qp, hH, rel, h, q⟩ => by
    subst hH
    refine opd_run rel h fun r e v d1 ⟨k0, k1⟩ s1 rel1 p1 => ?_
    cases hx : r.rd e with
    | none => rw [hx] at k0; exact k0.elim
    | some D =>
      rw [hx] at k0
      obtain ⟨a, rfl, hD⟩ := isD_of (rd_ok rel1 p1 hx) k0
      refine ⟨a, rfl, hD, d1, e, _, rfl, rel1, k1, fun tv e2 w d2 k2 s2 p2 => ?_⟩
      obtain ⟨rel2, r2⟩ := p2.frz
      refine ⟨d2, e2, _, rfl, rel2, k2, fun tv3 e3 w3 d3 k3 s3 p3 => ?_⟩
      obtain ⟨rel3, r3⟩ := p3.frz
      cases hy : r.rd e3 with
      | none => rw [hy] at k3; exact k3.elim
      | some D2 =>
        rw [hy] at k3
        have k3 : (match dAny D2 tv.pv with | some (some z) => Qp (.v z) e3 | some none => Qp (.v tv3.pv) e3 | none => False) := k3
        have s13 := s1.trans (s2.trans s3)
        cases hz : dAny D2 tv.pv with
        | none => rw [hz] at k3; exact k3.elim
        | some res =>
          obtain ⟨a', oo, ea, g, m⟩ := dAny_ok (rd_ok rel3 ((p1.stp s2).stp s3) hy) (Rp.b (s3.rp r2)) hz
          cases ea
          rw [hz] at k3
          cases res with
          | none => cases m.non; exact ⟨none, g, q _ e3 _ d3 k3 s13 (.v rel3 r3)⟩
          | some z =>
            obtain ⟨u, rfl, ru⟩ := m.som
            exact ⟨some u, g, q _ e3 _ d3 k3 s13 (.v rel3 ru)⟩
/-! ### {} -/
def oDict0 : OW := fun env Q => Q (.own (.dK [] [])) env
theorem so_dict0 {pos : Pos} : SO X G (.Dict [] [] pos) oDict0 :=
  PE.imp pe_dnewK fun σ H Q ⟨d, env, Qp, hH, rel, h, q⟩ => by
    subst hH
    intro p hp
    obtain ⟨d2, e2, s2, po⟩ := (Res.own (G := G) (o := .dK []) (x := .dK [] []) hp (Nat.zero_le _) (.dK (kvs := []) .nil)).post rel
    rw [← e2]
    exact q _ _ _ d2 h s2 po
/-! ### x[i] = v -/
def ownA (e : Env) (i : Nat) (K : PV → Prop) : Prop := match e[i]? with
  | some (some (.own c)) => K c
  | _ => False
theorem ownA_of {e : Env} {i : Nat} {K : PV → Prop} (h : ownA e i K) : ∃ c, e[i]? = some (some (.own c)) ∧ K c := by
  unfold ownA at h
  split at h
  · rename_i c hi
    exact ⟨c, hi, h⟩
  · exact h.elim
def putPV : PV → PV → PV → Option PV
  | .lst xs, .int j, x => match ixN xs.length j with
    | some n => some (.lst (xs.set n x))
    | none => none
  | .dK ks vs, key, x => match keyOf key with
    | some kk => some (.dK (dPutK ks kk) (dPut ks vs kk x))
    | none => match keysOf key with
      | some kk => if ks = [] then some (.dT [kk] [x]) else none
      | none => none
  | .dT ks vs, key, x => match keysOf key with
    | some kk => some (.dT (dPutK ks kk) (dPut ks vs kk x))
    | none => none
  | _, _, _ => none
def roomPV : PV → Prop
  | .dK ks _ => ks.length < sizeLine
  | .dT ks _ => ks.length < sizeLine
  | _ => True
def gPut (i : Nat) (o : Opd) : GW := fun x env Q => ownA env i fun _ => o.ev env fun r e => ownA e i fun c => match r.rd e with
  | some key => roomPV c ∧ match putPV c key x with
    | some c' => Q (e.set i (some (.own c')))
    | none => False
  | none => False
def rPutA : TSet := fun o i v H Q => rSetL o i v H Q ∨ rSetD o i v H Q ∨ ∃ (a b : Addr) (ks : List Key), o = .ref a ∧ H a = some (.dK []) ∧ i = .ref b ∧ H b = some (.tup (ks.map kV)) ∧ Q (upd H a (.dT [(ks, v)]))
theorem ps_putA (hu : X.A.units + 1 < cLine) : PSet X rPutA := by
  intro pins s σ H o i v ov iv u Q I ro ri rv h
  rcases h with h | h | ⟨a, b, ks, rfl, ha, rfl, hb, h⟩
  · exact set_list pins s σ H o i v ov iv u Q I ro ri rv h
  · exact set_dict hu pins s σ H o i v ov iv u Q I ro ri rv h
  · have hne : b ≠ a := fun z => by rw [z, ha] at hb; cases hb
    refine set_dict hu pins s σ (upd H a (.dT [])) (.ref a) (.ref b) v ov iv u Q (dKT I ha) ro ri rv ⟨a, _, rfl, DPut.t (k := ks) upd_same (by rw [upd_ne hne]; exact hb) (by decide), ?_⟩
    rw [upd_upd]
    exact h
def isSlice : Expr → Bool
  | .Slice .. => true
  | _ => false
theorem sg_put {x e : Expr} {i : Nat} {o : Opd} {pos : Pos} (cx : CxOk X G k) (hx : PE X x (tVar i)) (he : PE X e (o.te G)) (hns : isSlice e = false) : SG X G (.Subscript x e pos) [] (gPut i o) :=
  PG.imp (pg_sub hx he (ps_putA cx.hu1) (ha := fun v => by cases e <;> first | rfl | cases hns)) fun v σ H Q ⟨d, env, x, Qp, hH, rel, r, h, q⟩ => by
    subst hH
    obtain ⟨c0, hi0, h⟩ := ownA_of h
    obtain ⟨a, o0, hA0, hσ, h0, _⟩ := rel.so i c0 hi0
    refine ⟨_, hσ, opd_run rel h fun rr e w d1 k1 s1 rel1 p1 => ?_⟩
    obtain ⟨c, hi, k1⟩ := ownA_of k1
    obtain ⟨a', o1, hA, hσ', h1, rc⟩ := rel1.so i c hi
    rw [hσ] at hσ'
    cases hσ'
    cases hk : rr.rd e with
    | none => rw [hk] at k1; exact k1.elim
    | some key =>
      rw [hk] at k1
      obtain ⟨hroom, k1⟩ := k1
      cases hp : putPV c key x with
      | none => rw [hp] at k1; exact k1.elim
      | some c' =>
            rw [hp] at k1
            have rk := rd_ok rel1 p1 hk
            have rx := s1.rp r
            have fin : ∀ o', Sm o' → RpC G d1.W d1.R o' c' → Q σ (upd d1.H a o') := fun o' hs rc' => by
              obtain ⟨rel2, s2⟩ := rel1.writeA hi hA hs rc'
              exact q _ _ (d1.up a o') k1 (s1.trans s2) rel2 (OffEq.refl _ _)
            have hsm := rel1.ok.sm a _ h1
            cases rc with
            | @lst vs xs rv =>
              cases key with
              | int j =>
                cases rk.int
                simp only [putPV] at hp
                cases hj : ixN xs.length j with
                | none => rw [hj] at hp; cases hp
                | some n =>
                  rw [hj] at hp
                  cases hp
                  exact .inl ⟨a, vs, j, n, rfl, rfl, h1, by rw [rv.length]; exact hj, fin (.lst (vs.set n v)) (by show (vs.set n v).length ≤ _; rw [List.length_set]; exact hsm) (.lst (rv.set rx n))⟩
              | _ => simp [putPV] at hp
            | @dK kvs ys rv =>
              have hroom : (kvs.map (·.1)).length < sizeLine := hroom
              rw [List.length_map] at hroom
              simp only [putPV] at hp
              cases hkk : keyOf key with
              | some kk =>
                rw [hkk] at hp
                cases hp
                cases keyOf_ok rk hkk
                refine .inr (.inl ⟨a, _, rfl, DPut.k h1 hroom, fin (.dK (putK kvs kk v)) (by show (putK kvs kk v).length ≤ _; have := putK_len' kvs kk v; omega) ?_⟩)
                rw [← putK_keys kvs kk v]
                exact .dK (put_ok rx kk rv)
              | none =>
                rw [hkk] at hp
                cases hks : keysOf key with
                | none => rw [hks] at hp; cases hp
                | some kk =>
                  rw [hks] at hp
                  simp only at hp
                  split at hp
                  · rename_i hn
                    cases hp
                    have hkv : kvs = [] := List.map_eq_nil_iff.mp hn
                    subst hkv
                    obtain ⟨b, rfl, hb⟩ := keysOf_ok rk hks
                    exact .inr (.inr ⟨a, b, kk, rfl, h1, rfl, hb, fin (.dT [(kk, v)]) (by show 1 ≤ sizeLine; decide) (.dT (kvs := [(kk, v)]) (.one rx))⟩)
                  · cases hp
            | @dT kvs ys rv =>
              have hroom : (kvs.map (·.1)).length < sizeLine := hroom
              rw [List.length_map] at hroom
              simp only [putPV] at hp
              cases hks : keysOf key with
              | none => rw [hks] at hp; cases hp
              | some kk =>
                rw [hks] at hp
                cases hp
                obtain ⟨b, rfl, hb⟩ := keysOf_ok rk hks
                refine .inr (.inl ⟨a, _, rfl, DPut.t h1 hb hroom, fin (.dT (putK kvs kk v)) (by show (putK kvs kk v).length ≤ _; have := putK_len' kvs kk v; omega) ?_⟩)
                rw [← putK_keys kvs kk v]
                exact .dT (put_ok rx kk rv)
end
end IL

/-! IL13: enumerate of tuples. -/
namespace PySem
open Sem (wp)
theorem il_meets_enumerate {v : Value} {o : Obj} {H : Heap → Prop} (B : Begins v o H) :
    Meets (Builtin.«enumerate.__new__» ⟨[.type "enumerate", v], []⟩) (fun _ R s => H s.heap ∧
      R (.ok (.ret (.ref (s.heap.push o).objs.size))) { s with heap := (s.heap.push o).push { cls := .type "enumerate", data := .fields #[.none, .bool false, .ref s.heap.objs.size, rawInt 0, .none, .none] } }) :=
  .of_wp fun prog w A R s h => by
    obtain ⟨hp, g, d, tk, os⟩ := s; obtain ⟨h1, h⟩ := h
    have hsub := sub_enumerate
    have q1 : ∀ {A' : Around} {E : Value → Shared → Prop} {Q : Value → Shared → Prop}, Q (.ref hp.objs.size) ⟨hp.push o, g, d, tk, os⟩ → wpAny (model prog w) A' (pyIter v) Q E ⟨hp, g, d, tk, os⟩ :=
      fun q => B.iter prog w _ _ ⟨hp, g, d, tk, os⟩ _ h1 q
    wp_walk using q1
    refine wpAny_stack_any fun st => wpAny_pure ?_
    split
    · rename_i c _ _ _ _ _
      cases (c == Value.type "enumerate")
      · wp_walk using q1
        exact ⟨_, rfl, h⟩
      · wp_walk using q1
        exact ⟨_, rfl, h⟩
    · wp_walk using q1
      exact ⟨_, rfl, h⟩
theorem il_call_enumerate {prog : Program} {w : World} {A : Around} {E : Value → Shared → Prop} {s : Shared} {v : Value} {o : Obj} {H : Heap → Prop} {Q : Value → Shared → Prop} (B : Begins v o H) (h1 : H s.heap)
    (h : ∀ h', IsEnum h' (s.heap.objs.size + 1) s.heap.objs.size 0 .none → h'.get? s.heap.objs.size = some o → h'.objs.size = s.heap.objs.size + 2 →
      (∀ b o, s.heap.get? b = some o → h'.get? b = some o) → Q (.ref (s.heap.objs.size + 1)) { s with heap := h' }) :
    wpAny (model prog w) A (call (.type "enumerate") [v]) Q E s := by
  refine callType_new F.called_enumerate (by decide) (F.typeCall_enumerate_1 _) (F.newCall_enumerate_1 _) (fun obj => F.args_object_init_2 obj _) F.entry_enumerate_new
    (il_meets_enumerate B) ⟨h1, ?_⟩
  have hz : (s.heap.push o).objs.size = s.heap.objs.size + 1 := Heap.size_push ..
  show _ ∧ _
  rw [hz]
  have he : IsEnum ((s.heap.push o).push { cls := .type "enumerate", data := .fields #[.none, .bool false, .ref s.heap.objs.size, rawInt 0, .none, .none] }) (s.heap.objs.size + 1) s.heap.objs.size 0 .none := by
    have := Heap.get?_push_size (s.heap.push o) (o := { cls := .type "enumerate", data := .fields #[.none, .bool false, .ref s.heap.objs.size, rawInt 0, .none, .none] }) rfl
    rw [hz] at this; exact this
  refine ⟨⟨_, he, rfl⟩, h _ he (Heap.get?_push_of_some _ (Heap.get?_push_size _ B.free)) (by rw [Heap.size_push, hz]) fun b o x => Heap.get?_push_of_some _ (Heap.get?_push_of_some _ x)⟩
end PySem
namespace IL
open PySem PySem.Spec PyProof.Rows L2
def IteT (K : PySem.W.Frag) (a : Addr) : It :=
  ⟨fun i H => ∃ (xs : List V) (x : V), SqT K H a xs ∧ xs[i]? = some x, fun i H v H' => ∃ T x, v = .ref T ∧ H T = none ∧ H' = upd H T (.tup [.int (i : Nat), x]) ∧ ∀ xs, SqT K H a xs → xs[i]? = some x, fun i H => ∃ xs : List V, SqT K H a xs ∧ xs.length ≤ i⟩
theorem tup_ne_iter {h : Heap} {a it t : Addr} {its : Array Value} {i : Nat} (p : h.IsTuple a its) (q : h.IsTupleIter it t i) : a ≠ it := fun e => by
  obtain ⟨o, e1, c1, _⟩ := p
  obtain ⟨o', e2, c2, _⟩ := q
  rw [e, e2] at e1
  cases e1
  rw [c1] at c2
  exact absurd c2 (by decide)
theorem tup_ne_enum {h : Heap} {a it e : Addr} {its : Array Value} {i : Int} {old : Value} (p : h.IsTuple a its) (q : IsEnum h e it i old) : e ≠ a := fun z => by
  obtain ⟨o, e1, c1, _⟩ := p
  rw [← z, q] at e1
  cases e1
  have c1 : Value.type "enumerate" = Value.type "tuple" := c1
  injection c1 with c1
  exact absurd c1 (by decide)
theorem turn_enumT {P : Program} {w : World} {K : PySem.W.Frag} {elts : List Expr} {kk : Nat} {tpos : Pos} (a e it : Addr) :
    Turn P w K (.Tuple elts kk tpos) (IteT K a) [e, it] e (fun i h => (∃ old, IsEnum h e it ((i : Nat) : Int) old) ∧ h.IsTupleIter it a i ∧ e ≠ it) where
  mem := by simp
  obj := fun i h st b hb => by
    obtain ⟨⟨old, he⟩, ⟨o, ho, hc, hd⟩, _⟩ := st
    have e' : b = e ∨ b = it := by simpa using hb
    rcases e' with z | z
    · rw [z]; exact ⟨_, he, fun v q => nomatch q⟩
    · rw [z]; exact ⟨o, ho, fun v q => by rw [hd] at q; cases q⟩
  keep := fun i h h' st k => let ⟨⟨old, he⟩, hi, hne⟩ := st; ⟨⟨old, k e (by simp) _ he⟩, hi.at fun o q => k it (by simp) o q, hne⟩
  item := by
    intro X hP hw hK hc i pins s σ H E I hf st hg
    subst hP hw hK
    obtain ⟨⟨old, he⟩, hit, hne⟩ := st
    obtain ⟨xs, x, hq, hx⟩ := hg
    obtain ⟨its, rv, p, hz⟩ := I.tuple hq
    have p' : s.heap.IsTuple a its.toArray := p
    obtain ⟨u, hu, ru⟩ := rv.get hx
    have hel : e < s.heap.objs.size := Heap.lt_size he
    have hil : it < s.heap.objs.size := by obtain ⟨_, q, _⟩ := hit; exact Heap.lt_size q
    have hai : a ≠ it := tup_ne_iter p' hit
    have hea : e ≠ a := tup_ne_enum p' he
    have hlt : i < its.toArray.size := by
      have := (List.getElem?_eq_some_iff.mp hu).1
      simpa using this
    refine wpAny_pyNext_enum_itemD (Draws.tuple (prog := X.prog) (w := X.w) (A := X.A.in1) (show X.A.in1.handled = none from I.ok.hd hc) it a hai its.toArray) he ⟨hit, p'⟩ hlt hne (by simp [hne, hea]) fun y h' tk hy ho hst hT hsz hk => ?_
    have hyu : y = u := by
      have : its.toArray[i]? = some y := hy
      rw [List.getElem?_toArray, hu] at this
      exact (Option.some.inj this).symm
    subst hyu
    refine ⟨_, rfl, wpAny_letOwnedTupleGo_enum (s := { s with heap := h', toks := tk + 1 }) ho fun h'' he' sb => ?_⟩
    have hT2 : h''.get? s.heap.objs.size = some { cls := .type "tuple", data := .seq #[.int i tk, y] } := (sb.2 _ (Nat.ne_of_gt hel)).trans hT
    have new : ObjOk X.prog X.w (upd H s.heap.objs.size (.tup [.int (i : Nat), x])) h'' s.heap.objs.size (.tup [.int (i : Nat), x]) :=
      ⟨by show 2 ≤ sizeLine; decide, [.int i tk, y], .cons ⟨_, rfl⟩ (.cons ru .nil), ⟨_, hT2, rfl, _, rfl⟩⟩
    have I1 : Inv X pins σ (upd H s.heap.objs.size (.tup [.int (i : Nat), x])) { s with heap := h'', toks := tk + 1 } :=
      I.turnedNew (ch := [e, it]) (fun b ob hb q => (sb.2 b (fun z => hb (by simp [z]))).trans (hk b ob (fun z => hb (by simp [z])) (fun z => hb (by simp [z])) q)) hf (Nat.le_refl _) new
    refine ⟨.ref s.heap.objs.size, _, I1, rfl, ⟨_, x, rfl, I.hok.fresh (Nat.le_refl _), rfl, fun ys hy => by rw [I.tuple_inj hy hq]; exact hx⟩, ⟨⟨y, ?_⟩, hst.1.at fun o q => (sb.2 it (Ne.symm hne)).trans q, hne⟩, fun b hb => ?_⟩
    · have e1 : ((i + 1 : Nat) : Int) = (i : Int) + 1 := by omega
      rw [e1]; exact he'
    · have hb' : b < s.heap.objs.size := by
        have e' : b = e ∨ b = it := by simpa using hb
        rcases e' with z | z
        · rw [z]; exact hel
        · rw [z]; exact hil
      rw [upd_ne (Nat.ne_of_lt hb')]
      exact (hf b hb).1
  done := by
    intro X hP hw hK hc i pins s σ H E I hf st hg
    subst hP hw hK
    obtain ⟨⟨old, he⟩, hit, hne⟩ := st
    obtain ⟨xs, hq, hx⟩ := hg
    obtain ⟨its, rv, p, hz⟩ := I.tuple hq
    have p' : s.heap.IsTuple a its.toArray := p
    obtain ⟨f0, f1, f2, f3, f4, f5⟩ := hf it (by simp)
    have hl := rv.length
    have hh : X.A.in1.handled = none := I.ok.hd hc
    have hT : s.TypeIs (.ref e) "enumerate" := ⟨_, he, rfl⟩
    unfold pyNext
    refine wpAny_bind (wpAny_attempt (wpAny_callSpecial?_slot (name := Str.ofString "__next__") hT F.slot_enumerate_next
      (wpAny_call_entry F.slot_enumerate_next hT F.entry_enumerate_next ?_ (F.args_enumerate_next_1 _))))
    show wpAny _ _ (field (.ref e) 2 >>= _) _ _ _
    refine wpAny_bind (wpAny_field he rfl (x := .ref it) rfl ?_)
    refine wpAny_bind (wpAny_nextOf_tuple_end hh hit p' (by simp; omega) fun h' x he' hx' => ?_)
    obtain ⟨o, ho, hc⟩ := hx'
    refine wpAny_bind (wpAny_isInstance (T := "StopIteration") (b := true) ⟨o, ho, hc⟩ isSubtype_stop ?_)
    exact wpAny_pure ⟨rfl, I.turned (t' := s.toks) (fun b o hb q => he' b o hb q) f0 f1 f3 f4 f5⟩
  self := fun A i s Q E st h => let ⟨⟨_, he⟩, _⟩ := st; wpAny_pyIter_enum he h
def iEnumA (K : PySem.W.Frag) (ta : TA) : TI := fun σ H R => ta σ H fun vs H1 => ∃ a xs, vs = [.ref a] ∧ ((SqL K H1 a xs ∧ R (Ite K a) H1) ∨ (SqT K H1 a xs ∧ R (IteT K a) H1))
theorem pi_enumA {X : Cx} {e : Expr} {ta : TA} {p pos tpos : Pos} {elts : List Expr} {kk : Nat} (hg : Gl X "enumerate") (hm : X.mg "enumerate" = none) (ha : PA X [e] ta) (hs : starEach [e] X.env = [(false, eval e X.env)] := by rfl) :
    PI X (.Tuple elts kk tpos) (.Call (.Name "enumerate" p) [e] [] pos) (iEnumA X.K ta) := by
  refine ⟨fun pins s σ H R I h => ?_⟩
  refine Call_ (ld_blt I hg hm boot_enumerate (PyProof.Rows.callWith_type1 (thn (ha.run pos pins s σ H _ I h) fun us s1 ⟨vs, H1, I1, r1, q1⟩ => ?_) hs rfl))
  obtain ⟨a, xs, ex, q1⟩ := q1
  subst ex
  cases r1 with
  | cons r rr =>
    cases rr
    cases r
    have fresh2 : ∀ b ∈ [s1.heap.objs.size + 1, s1.heap.objs.size], FpOk X pins H1 b := fun b hb => by
      have e' : b = s1.heap.objs.size + 1 ∨ b = s1.heap.objs.size := by simpa using hb
      have hle : s1.heap.objs.size ≤ b := by
        rcases e' with z | z
        · rw [z]; exact Nat.le_add_right _ _
        · rw [z]; exact Nat.le_refl _
      exact I1.fpOk hle (I1.hok.fresh hle)
    rcases q1 with ⟨hq, q⟩ | ⟨hq, q⟩
    · obtain ⟨its, rv, p', hz⟩ := I1.list hq
      refine call_enumerate_list p'.isList fun h' he hit hsz hk => wpAny_pyIter_enum he ?_
      have I2 : Inv X pins σ H1 { s1 with heap := h' } := I1.kept (t' := s1.toks) hk
      exact ⟨s1.heap.objs.size + 1, [s1.heap.objs.size + 1, s1.heap.objs.size], _, _, H1, rfl, I2, turn_enum a (s1.heap.objs.size + 1) s1.heap.objs.size, ⟨⟨.none, he⟩, hit, Nat.succ_ne_self _⟩, fresh2, q⟩
    · obtain ⟨its, rv, p', hz⟩ := I1.tuple hq
      refine il_call_enumerate (begins_tuple a its.toArray) p' fun h' he hit hsz hk => wpAny_pyIter_enum he ?_
      have I2 : Inv X pins σ H1 { s1 with heap := h' } := I1.kept (t' := s1.toks) hk
      exact ⟨s1.heap.objs.size + 1, [s1.heap.objs.size + 1, s1.heap.objs.size], _, _, H1, rfl, I2, turn_enumT a (s1.heap.objs.size + 1) s1.heap.objs.size, ⟨⟨.none, he⟩, ⟨_, hit, rfl, rfl⟩, Nat.succ_ne_self _⟩, fresh2, q⟩
section
variable {X : Cx} {G : Gv} {k : Nat}
theorem Yields.enumT {d0 : Wd} {a : Addr} {vs : List V} {xs : List PV} (h : SqT G.K d0.R a vs) (r : Rps G d0.W d0.R vs xs) : Yields G (IteT G.K a) (enumPV 0 xs) d0 where
  go := fun d i s ok hi => by
    rw [enumPV_length] at hi
    obtain ⟨v, hv, _⟩ := (s.rps r).get' i (List.getElem?_eq_getElem hi)
    exact ⟨vs, v, SqT.same R_sub (SqT.same s.same h), hv⟩
  yld := fun d i v H' s ok hi ⟨T, y, e1, e2, e3, f⟩ => by
    subst e1 e3
    have hv := f vs (SqT.same R_sub (SqT.same s.same h))
    obtain ⟨x, hx, rx⟩ := (s.rps r).get i hv
    exact ⟨_, enumPV_get hx, .tup e2 (by show 2 ≤ sizeLine; decide) (.cons (by rw [Nat.zero_add]; exact .int _) (.cons rx .nil))⟩
  stop := fun d s ok => ⟨vs, SqT.same R_sub (SqT.same s.same h), by rw [enumPV_length]; exact Nat.le_of_eq r.length⟩
def sqOf : PV → Option (List PV)
  | .lst xs => some xs
  | .scr ns => some (ns.map .int)
  | .tup xs => some xs
  | _ => none
def iEnum' (m : OW) : IW := fun env Q => m env fun tv e => match sqOf tv.pv with
  | some xs => Q (enumPV 0 xs) e
  | none => False
theorem si_enumA {elts : List Expr} {kk : Nat} {tpos p pos : Pos} {e : Expr} {m : OW} (cx : CxOk X G k) (h : SO X G e m) (hs : isStar e = false) (hg : Gl X "enumerate") (hm : X.mg "enumerate" = none) : SI X G (.Tuple elts kk tpos) (.Call (.Name "enumerate" p) [e] [] pos) (iEnum' m) :=
  PI.imp (pi_enumA hg hm (pa_cons h pa_nil (hs := star_cons hs)) (hs := star_cons hs)) fun σ H R ⟨d, env, Qp, hH, rel, h, q⟩ => ⟨d, env, _, hH, rel, h, fun tv e v d' k s p => by
    obtain ⟨rel', r⟩ := p.frz
    cases hx : sqOf tv.pv with
    | none => rw [hx] at k; exact k.elim
    | some xs =>
      rw [hx] at k
      generalize tv.pv = y at hx r
      rw [cx.K]
      cases r with
      | @lst a vs ys h1 r1 => cases hx; exact ⟨a, vs, rfl, .inl ⟨SqL.of (R_sub _ _ h1), q _ e d' _ k s rel' (Yields.enum (SqL.of h1) r1)⟩⟩
      | @scr a ns h1 => cases hx; exact ⟨a, _, rfl, .inl ⟨Same.seq R_sub h1, q _ e d' _ k s rel' (Yields.enum h1 (Rps.ints ns))⟩⟩
      | @tup a vs ys h1 r1 => cases hx; exact ⟨a, vs, rfl, .inr ⟨SqT.of (R_sub _ _ h1), q _ e d' _ k s rel' (Yields.enumT (SqT.of h1) r1)⟩⟩
      | _ => cases hx⟩
end
end IL

/-! IL14: comprehensions of two clauses; calls by keywords, of a local name's def; names of defs. -/
namespace IL
open PySem PySem.Spec PyProof.Rows L2

def wComp2 (vs vs1 : List Nat) (g : GW) (t : TW) (w1 : IW) (g1 : GW) (t1 : TW) (m : OW) : List PV → List PV → Env → (List PV → Env → Prop) → Prop
  | [], acc, env, Q => Q acc env
  | x :: xs, acc, env, Q => g x (wipeE env vs) fun e1 => t e1 fun b e2 => if b = true then w1 e2 fun ys e3 => acc.length + ys.length ≤ sizeLine ∧ noOwn e3 vs1 = true ∧ wComp vs1 g1 t1 m ys acc e3 fun acc' e4 => wComp2 vs vs1 g t w1 g1 t1 m xs acc' (restE env e4 vs) Q
      else wComp2 vs vs1 g t w1 g1 t1 m xs acc (restE env e2 vs) Q
def oComp2 (vs vs1 : List Nat) (w : IW) (g : GW) (t : TW) (w1 : IW) (g1 : GW) (t1 : TW) (m : OW) : OW := fun env Q => w env fun xs e => noOwn e vs = true ∧ wComp2 vs vs1 g t w1 g1 t1 m xs [] e fun acc e2 => Q (.own (.lst acc)) e2
section
variable {X : Cx} {G : Gv} {k : Nat}
theorem inner_run {J : It} {xs : List PV} {vs : List Nat} {gw : GW} {tw : TW} {m : OW} {ts : List Nat} (hsub : ∀ i ∈ ts, i ∈ vs) {σ : St} {d0 d1 : Wd} {e0 : Env} {acc0 : List PV} {acv0 : List V} {Qp : List PV → Env → Prop} {Nx : Hp → Prop} {D : Addr} (s01 : StpW d0 d1) (hO1 : ∀ b, d1.O b ↔ d0.O b ∨ b = D) (hD0 : d0.H D = none) (rel1 : Rel G d1 e0 σ) (Y : Yields G J xs d1)
    (hDd1 : d1.H D = some (.lst acv0)) (ra1 : Rps G d1.W d1.R acv0 acc0) (hz : acc0.length + xs.length ≤ sizeLine) (no1 : noOwn e0 vs = true)
    (h : wComp vs gw tw m xs acc0 e0 Qp) (q : ∀ acc e dd acv, Qp acc e → StpW d0 dd → StpU d1 dd → (∀ b, dd.O b ↔ d0.O b ∨ b = D) → Rel G dd e σ → dd.H D = some (.lst acv) → Rps G dd.W dd.R acv acc → Nx dd.H) :
    ∃ W : Nat → Nat → Hp → Prop, (∃ m, W 0 m d1.H) ∧ ∀ i m' H, W i m' H → (J.stop i H ∧ Nx H) ∨ (J.go i H ∧ ∃ Nx1 : Hp → Prop, (∀ H', Nx1 H' → ∃ m2, m2 < m' ∧ W (i + 1) m2 H') ∧
      ∀ x H', J.yld i H x H' → tSG G ts gw x (wipe σ vs) H' fun σ2 H2 => wipe σ2 vs = wipe σ vs ∧ tST G tw σ2 H2 fun b H3 =>
        if b = true then tSO G m σ2 H3 fun y H4 => ∃ acc, H4 D = some (.lst acc) ∧ acc.length < sizeLine ∧ Nx1 (upd H4 D (.lst (acc ++ [y]))) else Nx1 H3) := by
  have hDO1 : d1.O D := (hO1 D).mpr (.inr rfl)
  let Iv : Nat → Nat → Hp → Prop := fun i m' H => m' = xs.length - i ∧ i ≤ xs.length ∧ ∃ (dd : Wd) (e : Env) (acc : List PV) (acv : List V), dd.H = H ∧ StpW d0 dd ∧ StpU d1 dd ∧ (∀ b, dd.O b ↔ d0.O b ∨ b = D) ∧ Rel G dd e σ ∧ noOwn e vs = true ∧ dd.H D = some (.lst acv) ∧ Rps G dd.W dd.R acv acc ∧ acv.length ≤ acc0.length + i ∧ wComp vs gw tw m (xs.drop i) acc e Qp
  refine ⟨Iv, ⟨xs.length, by simp [Iv] <;> omega, Nat.zero_le _, d1, e0, acc0, acv0, rfl, s01, (Stp.refl d1).u, hO1, rel1, no1, hDd1, ra1, by rw [ra1.length]; omega, h⟩, ?_⟩
  rintro i m' H ⟨rfl, hi, dd, e, acc, acv, rfl, sw, su, hO, rel, no, hDd, ra, hlen, hw⟩
  by_cases hlt : i < xs.length
  · refine .inr ⟨Y.go dd i su rel.ok hlt, fun H' => Iv (i + 1) (xs.length - (i + 1)) H', fun H' n => ⟨_, by omega, n⟩, fun v H' hy => ?_⟩
    obtain ⟨x, hx, rs⟩ := Y.yld dd i v H' su rel.ok hlt hy
    obtain ⟨d3, e3, s3, p3⟩ := rs.post rel
    subst e3
    obtain ⟨rel3, r3⟩ := p3.frz
    have hdr : xs.drop i = x :: xs.drop (i + 1) := by
      rw [List.drop_eq_getElem_cons hlt]
      congr 1
      rw [List.getElem?_eq_getElem hlt] at hx
      exact Option.some.inj hx
    rw [hdr] at hw
    have hDO : dd.O D := (hO D).mpr (.inr rfl)
    have keepD : ∀ {d' : Wd}, Stp dd d' → d'.H D = some (.lst acv) := fun {d'} s => s.keep D _ hDd (fun z => rel.ok.dWO D z hDO) (rel.ok.dOA D hDO)
    refine ⟨d3, wipeE e vs, x, _, rfl, rel3.wipe vs, r3, hw, fun e4 σ4 d4 k4 s4 rel4 o4 => ⟨wipe_offEq o4 hsub, d4, e4, _, rfl, rel4, k4, fun b e5 d5 k5 s5 rel5 => ?_⟩⟩
    have w4 : wipe σ4 vs = wipe σ vs := wipe_offEq o4 hsub
    have s35 : Stp dd d5 := s3.trans (s4.trans s5)
    cases b with
    | false =>
      have hr := rel.rest s35.u rel5 w4 no
      exact ⟨rfl, hlt, d5, _, acc, acv, rfl, sw.trans s35.w, su.trans s35.u, fun b => by rw [s35.O]; exact hO b, hr, noOwn_rest no fun _ z => z, keepD s35, s35.rps ra, by omega, k5⟩
    | true =>
      refine ⟨d5, e5, _, rfl, rel5, k5, fun tv e6 y d6 k6 s6 p6 => ?_⟩
      obtain ⟨rel6, r6⟩ := p6.frz
      have s36 : Stp dd d6 := s35.trans s6
      have hr := rel.rest s36.u rel6 w4 no
      have hD6 : d6.O D := by rw [s36.O]; exact hDO
      have hla : acv.length < sizeLine := by omega
      have hsm : Sm (.lst (acv ++ [y])) := by show (acv ++ [y]).length ≤ sizeLine; simp; omega
      refine ⟨acv, keepD s36, hla, rfl, hlt, d6.up D (.lst (acv ++ [y])), _, acc ++ [tv.pv], acv ++ [y], rfl, ?_, ?_, fun b => by show d6.O b ↔ _; rw [s36.O]; exact hO b, hr.writeO hD6 hsm, noOwn_rest no fun _ z => z, upd_same, ?_, by simp; omega, k6⟩
      · have s := sw.trans s36.w
        exact ⟨fun b o hb hw ha => by show upd d6.H D _ b = some o; rw [upd_ne (ne_of_none hb hD0)]; exact s.keep b o hb hw ha, fun b hb => upd_ne_none (s.al b hb), s.w1, s.w2, s.a2, s.o2⟩
      · have s := su.trans s36.u
        exact ⟨fun b o hb hw ho ha => by show upd d6.H D _ b = some o; rw [upd_ne (fun z => ho (by rw [z]; exact hDO1))]; exact s.keep b o hb hw ho ha, fun b hb => upd_ne_none (s.al b hb), s.w1, s.w2, s.a2, s.o2⟩
      · have hR : (d6.up D (.lst (acv ++ [y]))).R = d6.R := msk_upd (.inr (.inl hD6))
        rw [hR]
        exact (s36.rps ra).append (.one r6)
  · have hl : i = xs.length := by omega
    subst hl
    rw [List.drop_length] at hw
    exact .inl ⟨Y.stop dd su rel.ok, q acc e dd acv hw sw su hO rel hDd ra⟩
theorem comp2_run {J : It} {xs : List PV} {vs vs1 : List Nat} {gw gw1 : GW} {tw tw1 : TW} {w1 : IW} {m : OW} {ts ts1 : List Nat} (hsub : ∀ i ∈ ts, i ∈ vs) (hsub1 : ∀ i ∈ ts1, i ∈ vs1) {σ : St} {d1 : Wd} {e0 : Env} {Qp : List PV → Env → Prop} {Qd : Hp → Prop} {D : Addr} (rel1 : Rel G d1 e0 σ) (Y : Yields G J xs d1) (hD : d1.H D = none) (no : noOwn e0 vs = true)
    (h : wComp2 vs vs1 gw tw w1 gw1 tw1 m xs [] e0 Qp) (q : ∀ acc e dd acv, Qp acc e → StpW d1 dd → (∀ b, dd.O b ↔ d1.O b ∨ b = D) → Rel G dd e σ → dd.H D = some (.lst acv) → Rps G dd.W dd.R acv acc → Qd dd.H) :
    ∃ W : Nat → Nat → Hp → Prop, (∃ m, W 0 m (upd d1.H D (.lst []))) ∧ ∀ i m' H, W i m' H → (J.stop i H ∧ Qd H) ∨ (J.go i H ∧ ∃ Nx : Hp → Prop, (∀ H', Nx H' → ∃ m2, m2 < m' ∧ W (i + 1) m2 H') ∧
      ∀ x H', J.yld i H x H' → tSG G ts gw x (wipe σ vs) H' fun σ2 H2 => wipe σ2 vs = wipe σ vs ∧ tST G tw σ2 H2 fun b H3 =>
        if b = true then tSI G w1 σ2 H3 fun J1 H4 => ∃ W1 : Nat → Nat → Hp → Prop, (∃ m, W1 0 m H4) ∧ ∀ j k H, W1 j k H →
          (J1.stop j H ∧ Nx H) ∨ (J1.go j H ∧ ∃ Nx1 : Hp → Prop, (∀ H', Nx1 H' → ∃ k', k' < k ∧ W1 (j + 1) k' H') ∧ ∀ x H', J1.yld j H x H' → tSG G ts1 gw1 x (wipe σ2 vs1) H' fun σ3 H5 => wipe σ3 vs1 = wipe σ2 vs1 ∧ tST G tw1 σ3 H5 fun b H6 =>
            if b = true then tSO G m σ3 H6 fun y H7 => ∃ acc, H7 D = some (.lst acc) ∧ acc.length < sizeLine ∧ Nx1 (upd H7 D (.lst (acc ++ [y]))) else Nx1 H6)
        else Nx H3) := by
  let Iv : Nat → Nat → Hp → Prop := fun i m' H => m' = xs.length - i ∧ i ≤ xs.length ∧ ∃ (dd : Wd) (e : Env) (acc : List PV) (acv : List V), dd.H = H ∧ StpW d1 dd ∧ (∀ b, dd.O b ↔ d1.O b ∨ b = D) ∧ Rel G dd e σ ∧ noOwn e vs = true ∧ dd.H D = some (.lst acv) ∧ Rps G dd.W dd.R acv acc ∧ wComp2 vs vs1 gw tw w1 gw1 tw1 m (xs.drop i) acc e Qp
  refine ⟨Iv, ⟨xs.length, by simp [Iv] <;> omega, Nat.zero_le _, (d1.up D (.lst [])).add D, e0, [], [], rfl, ?_, fun b => Iff.rfl, rel1.addO hD (Nat.zero_le _), no, upd_same, .nil, h⟩, ?_⟩
  · have s := Stp.up (o := .lst []) hD
    exact ⟨s.keep, s.al, s.w1, s.w2, s.a2, fun b z => z.elim .inl fun z => .inr (by rw [z]; exact hD)⟩
  rintro i m' H ⟨rfl, hi, dd, e, acc, acv, rfl, sw, hO, rel, no, hDd, ra, hw⟩
  by_cases hlt : i < xs.length
  · refine .inr ⟨Y.go dd i sw.u rel.ok hlt, fun H' => Iv (i + 1) (xs.length - (i + 1)) H', fun H' n => ⟨_, by omega, n⟩, fun v H' hy => ?_⟩
    obtain ⟨x, hx, rs⟩ := Y.yld dd i v H' sw.u rel.ok hlt hy
    obtain ⟨d3, e3, s3, p3⟩ := rs.post rel
    subst e3
    obtain ⟨rel3, r3⟩ := p3.frz
    have hdr : xs.drop i = x :: xs.drop (i + 1) := by
      rw [List.drop_eq_getElem_cons hlt]
      congr 1
      rw [List.getElem?_eq_getElem hlt] at hx
      exact Option.some.inj hx
    rw [hdr] at hw
    have hDO : dd.O D := (hO D).mpr (.inr rfl)
    have keepD : ∀ {d' : Wd}, Stp dd d' → d'.H D = some (.lst acv) := fun {d'} s => s.keep D _ hDd (fun z => rel.ok.dWO D z hDO) (rel.ok.dOA D hDO)
    refine ⟨d3, wipeE e vs, x, _, rfl, rel3.wipe vs, r3, hw, fun e4 σ4 d4 k4 s4 rel4 o4 => ⟨wipe_offEq o4 hsub, d4, e4, _, rfl, rel4, k4, fun b e5 d5 k5 s5 rel5 => ?_⟩⟩
    have w4 : wipe σ4 vs = wipe σ vs := wipe_offEq o4 hsub
    have s35 : Stp dd d5 := s3.trans (s4.trans s5)
    cases b with
    | false =>
      have hr := rel.rest s35.u rel5 w4 no
      exact ⟨rfl, hlt, d5, _, acc, acv, rfl, sw.trans s35.w, fun b => by rw [s35.O]; exact hO b, hr, noOwn_rest no fun _ z => z, keepD s35, s35.rps ra, k5⟩
    | true =>
      refine ⟨d5, e5, _, rfl, rel5, k5, fun ys e6 d6 J1 k6 s6 rel6 Y6 => ?_⟩
      have s36 : Stp dd d6 := s35.trans s6
      refine inner_run (G := G) hsub1 (sw.trans s36.w) (fun b => by rw [s36.O]; exact hO b) hD rel6 Y6 (keepD s36) (s36.rps ra) k6.1 k6.2.1 k6.2.2 fun acc' e7 d7 acv' k7 sw7 su7 hO7 rel7 hD7 ra7 => ?_
      have hr := rel.rest (s36.u.trans su7) rel7 w4 no
      exact ⟨rfl, hlt, d7, _, acc', acv', rfl, sw7, hO7, hr, noOwn_rest no fun _ z => z, hD7, ra7, k7⟩
  · have hl : i = xs.length := by omega
    subst hl
    rw [List.drop_length] at hw
    exact .inl ⟨Y.stop dd sw.u rel.ok, q acc e dd acv hw sw hO rel hDd ra⟩
theorem so_comp2 {elt tg iter tg1 iter1 : Expr} {ifs ifs1 : List Expr} {scope : Scope} {own : List (Str × Nat)} {vs1 : List Nat} {pos : Pos} {w w1 : IW} {ts ts1 : List Nat} {gw gw1 : GW} {tw tw1 : TW} {m : OW} (cx : CxOk X G k) (hi : SI X G tg iter w) (ok : BlkOk X.N X.env.scope scope own) (hv : ∀ i ∈ vs1, i ∈ own.map (·.2))
    (hg : ∀ (s : Shared) (H : Hp) (C : Addr) (cl : List (Str × Addr)) (fp : List Addr), SG (X.blk s H scope (compEnvC scope cl C X.env) fp) G tg ts gw) (ht : ∀ (s : Shared) (H : Hp) (C : Addr) (cl : List (Str × Addr)) (fp : List Addr), PTs (X.blk s H scope (compEnvC scope cl C X.env) fp) ifs (tST G tw))
    (hi1 : ∀ (s : Shared) (H : Hp) (C : Addr) (cl : List (Str × Addr)) (fp : List Addr), SI (X.blk s H scope (compEnvC scope cl C X.env) fp) G tg1 iter1 w1)
    (hg1 : ∀ (s : Shared) (H : Hp) (C : Addr) (cl : List (Str × Addr)) (fp : List Addr), SG (X.blk s H scope (compEnvC scope cl C X.env) fp) G tg1 ts1 gw1) (ht1 : ∀ (s : Shared) (H : Hp) (C : Addr) (cl : List (Str × Addr)) (fp : List Addr), PTs (X.blk s H scope (compEnvC scope cl C X.env) fp) ifs1 (tST G tw1))
    (he : ∀ (s : Shared) (H : Hp) (C : Addr) (cl : List (Str × Addr)) (fp : List Addr), SO (X.blk s H scope (compEnvC scope cl C X.env) fp) G elt m) (hs : ∀ x, foldedSetIterable iter X.env x = pure x) (hs1 : ∀ env x, foldedSetIterable iter1 env x = pure x) (hsub : ∀ i ∈ ts, i ∈ own.map (·.2)) (hsub1 : ∀ i ∈ ts1, i ∈ vs1) :
    SO X G (.ListComp elt [⟨tg, iter, ifs, 0⟩, ⟨tg1, iter1, ifs1, 0⟩] scope pos) (oComp2 (own.map (·.2)) vs1 w gw tw w1 gw1 tw1 m) :=
  PE.imp (pe_lc2 cx.calm cx.nd hi ok hv hg ht hi1 hg1 ht1 he hs hs1) fun σ H Q ⟨d, env, Qp, hH, rel, h, q⟩ => ⟨d, env, _, hH, rel, h, fun xs e d1 J k1 s1 rel1 Y D hD =>
    comp2_run hsub hsub1 rel1 Y hD k1.1 k1.2 fun acc e2 dd acv k2 sw hO rel2 hDd ra => by
      have hdd : ({ dd with O := d1.O } : Wd).add D = dd := by
        have : (fun b => d1.O b ∨ b = D) = dd.O := funext fun b => propext (hO b).symm
        show ({ dd with O := fun b => d1.O b ∨ b = D } : Wd) = dd
        rw [this]
      have s2 : Stp d1 { dd with O := d1.O } := ⟨rfl, sw.keep, sw.al, sw.w1, sw.w2, sw.a2⟩
      refine q (.own (.lst acc)) e2 (.ref D) { dd with O := d1.O } k2 (s1.trans s2) (.own (o := .lst acv) (s1.w.un hD) (fun z => ?_) (by rw [hdd]; exact rel2) hDd (by rw [hdd]; exact .lst ra))
      rcases z with z | z | z
      · exact rel2.ok.dWO D z ((hO D).mpr (.inr rfl))
      · exact rel1.ok.al D (.inr (.inl z)) hD
      · exact rel2.ok.dOA D ((hO D).mpr (.inr rfl)) z⟩
theorem ss_setComp2 {i : Nat} {y : Str} {py : Pos} {elt tg iter tg1 iter1 : Expr} {ifs ifs1 : List Expr} {scope : Scope} {own : List (Str × Nat)} {vs1 : List Nat} {pos spos : Pos} {w w1 : IW} {ts ts1 : List Nat} {gw gw1 : GW} {tw tw1 : TW} {m : OW} (cx : CxOk X G k) (hy : X.N[i]? = some y) (hyl : X.env.scope.names.lookup y = some .local)
    (hsw : swapsWith (.ListComp elt [⟨tg, iter, ifs, 0⟩, ⟨tg1, iter1, ifs1, 0⟩] scope pos) (some (.Name y py)) spos.line X.env = pure true) (hi : SI X G tg iter w) (ok : BlkOk X.N X.env.scope scope own) (hv : ∀ i ∈ vs1, i ∈ own.map (·.2))
    (hg : ∀ (s : Shared) (H : Hp) (C : Addr) (cl : List (Str × Addr)) (fp : List Addr), SG (X.blk s H scope (compEnvC scope cl C X.env) fp) G tg ts gw) (ht : ∀ (s : Shared) (H : Hp) (C : Addr) (cl : List (Str × Addr)) (fp : List Addr), PTs (X.blk s H scope (compEnvC scope cl C X.env) fp) ifs (tST G tw))
    (hi1 : ∀ (s : Shared) (H : Hp) (C : Addr) (cl : List (Str × Addr)) (fp : List Addr), SI (X.blk s H scope (compEnvC scope cl C X.env) fp) G tg1 iter1 w1)
    (hg1 : ∀ (s : Shared) (H : Hp) (C : Addr) (cl : List (Str × Addr)) (fp : List Addr), SG (X.blk s H scope (compEnvC scope cl C X.env) fp) G tg1 ts1 gw1) (ht1 : ∀ (s : Shared) (H : Hp) (C : Addr) (cl : List (Str × Addr)) (fp : List Addr), PTs (X.blk s H scope (compEnvC scope cl C X.env) fp) ifs1 (tST G tw1))
    (he : ∀ (s : Shared) (H : Hp) (C : Addr) (cl : List (Str × Addr)) (fp : List Addr), SO (X.blk s H scope (compEnvC scope cl C X.env) fp) G elt m) (hs : ∀ x, foldedSetIterable iter X.env x = pure x) (hs1 : ∀ env x, foldedSetIterable iter1 env x = pure x) (hsub : ∀ i ∈ ts, i ∈ own.map (·.2)) (hsub1 : ∀ i ∈ ts1, i ∈ vs1) :
    SS X G (.Assign [.Name y py] (.ListComp elt [⟨tg, iter, ifs, 0⟩, ⟨tg1, iter1, ifs1, 0⟩] scope pos) spos) (sSet i (oComp2 (own.map (·.2)) vs1 w gw tw w1 gw1 tw1 m)) :=
  PS.imp (ps_setLc2 cx.calm cx.nd hy hyl hsw hi ok hv hg ht hi1 hg1 ht1 he hs hs1) fun D σ H ⟨d, env, P, hH, rel, h, f⟩ => ⟨d, env, _, hH, rel, h, fun xs e d1 J k1 s1 rel1 Y Da hD =>
    comp2_run hsub hsub1 rel1 Y hD k1.1 k1.2 fun acc e2 dd acv k2 sw hO rel2 hDd ra => by
      have hdd : ({ dd with O := d1.O } : Wd).add Da = dd := by
        have : (fun b => d1.O b ∨ b = Da) = dd.O := funext fun b => propext (hO b).symm
        show ({ dd with O := fun b => d1.O b ∨ b = Da } : Wd) = dd
        rw [this]
      have s2 : Stp d1 { dd with O := d1.O } := ⟨rfl, sw.keep, sw.al, sw.w1, sw.w2, sw.a2⟩
      have po : Post G d { dd with O := d1.O } e2 σ (.own (.lst acc)) (.ref Da) := .own (o := .lst acv) (s1.w.un hD) (fun z => by
        rcases z with z | z | z
        · exact rel2.ok.dWO Da z ((hO Da).mpr (.inr rfl))
        · exact rel1.ok.al Da (.inr (.inl z)) hD
        · exact rel2.ok.dOA Da ((hO Da).mpr (.inr rfl)) z) (by rw [hdd]; exact rel2) hDd (by rw [hdd]; exact .lst ra)
      obtain ⟨d3, e3, s3, r3⟩ := po.stored (s1.trans s2) (i := i)
      have e4 : dd.H = d3.H := e3.symm
      rw [e4]
      exact f.nx _ _ d3 k2 s3 r3⟩
end
/-! ### calls by keywords alone -/
def pick {α : Type} (pm : List Nat) (ws : List α) : List α := pm.filterMap fun i => ws[i]?
theorem pick_vals {pm : List Nat} {zs : List V} {ws : List Value} (h : Vals zs ws) : Vals (pick pm zs) (pick pm ws) := by
  induction pm with
  | nil => exact .nil
  | cons i pm ih =>
    unfold pick at *
    cases hz : zs[i]? with
    | none =>
      have : ws[i]? = none := by
        rw [List.getElem?_eq_none_iff] at hz ⊢
        rw [← h.length]; exact hz
      simp only [List.filterMap_cons, hz, this]
      exact ih
    | some z =>
      obtain ⟨u, hu, r⟩ := h.get hz
      simp only [List.filterMap_cons, hz, hu]
      exact .cons r ih
theorem Rps.pick {G : Gv} {W : Addr → Prop} {R : Hp} {pm : List Nat} {vs : List V} {xs : List PV} (h : Rps G W R vs xs) : Rps G W R (IL.pick pm vs) (IL.pick pm xs) := by
  induction pm with
  | nil => exact .nil
  | cons i pm ih =>
    unfold IL.pick at *
    cases hz : vs[i]? with
    | none =>
      have : xs[i]? = none := by
        rw [List.getElem?_eq_none_iff] at hz ⊢
        rw [← h.length]; exact hz
      simp only [List.filterMap_cons, hz, this]
      exact ih
    | some z =>
      obtain ⟨u, hu, r⟩ := h.get i hz
      simp only [List.filterMap_cons, hz, hu]
      exact .cons r ih
theorem kbn_of {K : PySem.W.Frag} {x qual : Str} {params : Arguments} {body : List Stmt} {scope : Scope} {f : Addr} {fd : FuncData} {ps ks : List Str} {pm : List Nat} (F : FunD K x qual params body scope [] [] f fd)
    (h : ∀ (kV doc pm' : Value) (an : Option Addr) (cdv ct : Value) (ws : List Value), ws.length = ks.length → bindArgs (PySem.W.fnOf x qual params body scope .none kV doc pm' an cdv ct) ⟨[], ks.zip ws⟩ = pure (ps.zip (pick pm ws))) : KBn K fd ps 0 ks (fun _ ws => pick pm ws) (fun _ zs => pick pm zs) := by
  obtain ⟨oc, od, dV, kV, doc, pm', an, cdv, ct, osl, rfl, lk, hcd, hD, hK⟩ := F.ex
  rcases hD with ⟨_, rfl⟩ | ⟨e, _⟩
  · refine ⟨fun s us ws X l1 l2 => ?_, fun _ r2 => pick_vals r2⟩
    cases us with
    | nil => exact .of_eq (h kV doc pm' an cdv ct ws l2)
    | cons _ _ => cases l1
  · exact absurd rfl e
def oCallK (n : Nat) (F : FW) (pm : List Nat) (ms : List OW) : OW := fun env Q => wArgs ms env fun xs e => (pick pm xs).length = n ∧ F (pick pm xs) fun tv => Q tv e
section
variable {X : Cx} {G : Gv} {k : Nat}
theorem so_callK {x : Str} {p pos : Pos} {kws : List Keyword} {ks : List Str} {pm : List Nat} {n : Nat} {F : FW} {ms : List OW} {f : Addr} {fd : FuncData} {ps : List Str} (cx : CxOk X G k) (FO : FnOk X.prog X.w X.K X.mg X.base CX0 k f fd ps (spOf G n F)) (hg : Gl X x) (hm : X.mg x = some (.ref f))
    (hk : PySem.W.keepIn X.K (.ref f) = true) (hb : KBn X.K fd ps 0 ks (fun _ ws => pick pm ws) (fun _ zs => pick pm zs)) (ha : PK X kws (argsTA G ms)) (hl : ms.length = ks.length) (hall : (backToKw pos (keywordEach kws X.env)).all (·.1.isSome) = true) (hks : (backToKw pos (keywordEach kws X.env)).filterMap (·.1) = ks)
    (hpl : ((backTo pos (starEach [] X.env)).any (·.1) || (backToKw pos (keywordEach kws X.env)).any (·.1.isNone)) = false) (hd : (x == ("__debug__" : Str)) = false) : SO X G (.Call (.Name x p) [] kws pos) (oCallK n F pm ms) := by
  refine ⟨fun pins s σ H Q I ⟨d, env, Qp, hH, rel, h, q⟩ => ?_⟩
  subst hH
  refine wpAny_Call_Name_kw (ld_glob I hg hm ?_ hd)
  have run : argsTA G ms σ d.H fun zs H1 => zs.length = ks.length ∧ spOf G n F (pick pm zs) H1 Q E0 := args_run rel h fun xs e vs d1 k1 s1 rel1 r l => ⟨by rw [r.length, l, hl], d1.in_, pick pm xs, _, rfl, rfl, rel1.ok.in_, by rw [Wd.in_R]; exact r.pick, k1.1, k1.2, fun tv v d2 k2 s2 hA ok2 rt => q tv e v (d1.back d2) k2 (s1.trans (back_stp s2)) ((rt.post rel1 s2 ok2 hA).from s1)⟩
  refine PySem.W.callWith_KW0 (h₀ := X.base) I.ok.mod.kin hk hall (thn (ha.run pos pins s σ d.H _ I run) fun ws s2 ⟨zs, H2, I2, rz, l2, q2⟩ => ⟨I2.kIn, ?_⟩) hpl
  rw [hks]
  exact run_fnN (k := k) FO cx.room hb pass0 I2 .nil rz rfl l2 q2
/-- a call of a local name that holds the def x -/
def oCallL (i : Nat) (z : Str) (n : Nat) (F : FW) (ms : List OW) : OW := fun env Q => (∃ tv, env[i]? = some (some (.v tv)) ∧ tv = .fn z) ∧ wArgs ms env fun xs e => xs.length = n ∧ F xs fun tv => Q tv e
theorem so_callL {i : Nat} {x z : Str} {p pos : Pos} {e : Expr} {es : List Expr} {n : Nat} {F : FW} {ms : List OW} {f : Addr} {fd : FuncData} {ps : List Str} (cx : CxOk X G k) (FO : FnOk X.prog X.w X.K X.mg X.base CX0 k f fd ps (spOf G n F)) (hN : X.N[i]? = some x) (hv : Vis X.env.scope x) (hm : G.mg z = some (.ref f))
    (hk : PySem.W.keepIn X.K (.ref f) = true) (hb : Binds X.K fd ps []) (ha : PA X (e :: es) (argsTA G ms)) (hs : (e :: es).any isStar = false) (hd : (x == ("__debug__" : Str)) = false) (hcd : (x == ("__classdict__" : Str)) = false) : SO X G (.Call (.Name x p) (e :: es) [] pos) (oCallL i z n F ms) :=
  PE.imp (pe_callL (E := E0) (i := i) FO cx.room hN hv hk hb .nil pass0 ha (hdb := hd) (hcd := hcd) (he := star_cons (by rw [List.any_cons, Bool.or_eq_false_iff] at hs; exact hs.1)) (hpl := star_any (by rw [List.any_cons, Bool.or_eq_false_iff] at hs; exact hs.2))) fun σ H Q ⟨d, env, Qp, hH, rel, h, q⟩ => by
    subst hH
    obtain ⟨⟨tv, hi, rfl⟩, h⟩ := h
    obtain ⟨v, h1, h2⟩ := rel.sl i _ hi
    cases h2 with
    | fn e =>
      rw [hm] at e
      cases e
      exact ⟨h1, call_run rel (F := F) (n := n) (ms := ms) h q⟩
theorem so_alt {e : Expr} {m m' : OW} (h : SO X G e m) (h' : SO X G e m') : SO X G e (fun env Q => m env Q ∨ m' env Q) :=
  ⟨fun pins s σ H Q I ⟨d, env, Qp, hH, rel, w, q⟩ => w.elim (fun w => h.run pins s σ H Q I ⟨d, env, Qp, hH, rel, w, q⟩) fun w => h'.run pins s σ H Q I ⟨d, env, Qp, hH, rel, w, q⟩⟩
end
end IL

/-! IL15: the rules over contexts, as a printed proof uses them. -/
namespace IL
open PySem PySem.Spec PyProof.Rows L2

/-- a block's scope in a def's -/
def rlS (scope sc : Scope) : Scope := relabel scope { (default : PySem.Env) with scope := sc }
structure CB (X : Cx) (G : Gv) (k : Nat) (N : List Str) (sc sf : Scope) : Prop where
  ok : CxOk X G k
  fn : ∀ x, sf.names.lookup x = some NameKind.cell → X.fn x = true
  N : X.N = N
  sc : X.env.scope = sc
/-- sc: the scope; sf: the scope whose cells may be stored to -/
structure CT (X : Cx) (P : Program) (w : World) (base : Heap) (G : Gv) (k : Nat) (N : List Str) (sc sf : Scope) : Prop where
  cc : CB X G k N sc sf
  s3 : Same3 X P w base
def visB (sc : Scope) (x : Str) : Bool := match sc.names.lookup x with
  | some .local => true
  | some .cell => true
  | some .free => true
  | _ => false
def locB (sc : Scope) (x : Str) : Bool := match sc.names.lookup x with
  | some .local => true
  | some .cell => true
  | _ => false
def noDbg (x : Str) : Bool := !(x == ("__debug__" : Str)) && !(x == ("__classdict__" : Str))
def nmB (N : List Str) (sc : Scope) (i : Nat) (x : Str) : Bool := decide (N[i]? = some x) && (visB sc x && noDbg x)
def tgB (N : List Str) (sc sf : Scope) (i : Nat) (x : Str) : Bool := decide (N[i]? = some x) && (decide (sc.names.lookup x = some .local) || (decide (sc.names.lookup x = some .cell) && decide (sf.names.lookup x = some .cell)))
def glB (sc : Scope) (x : Str) : Bool := decide (sc.names.lookup x = some .globalImplicit) && noDbg x
theorem visB_ok {sc : Scope} {x : Str} (h : visB sc x = true) : Vis sc x := by
  unfold visB at h
  split at h
  · exact .inl (by assumption)
  · exact .inr (.inl (by assumption))
  · exact .inr (.inr (by assumption))
  · cases h
theorem locB_ok {sc : Scope} {x : Str} (h : locB sc x = true) : sc.names.lookup x = some .local ∨ sc.names.lookup x = some .cell := by
  unfold locB at h
  split at h
  · exact .inl (by assumption)
  · exact .inr (by assumption)
  · cases h
theorem noDbg_ok {x : Str} (h : noDbg x = true) : (x == ("__debug__" : Str)) = false ∧ (x == ("__classdict__" : Str)) = false := by
  unfold noDbg at h
  rw [Bool.and_eq_true, Bool.not_eq_true', Bool.not_eq_true'] at h
  exact h
section
variable {X : Cx} {P : Program} {w : World} {base : Heap} {G : Gv} {k : Nat} {N : List Str} {sc sf : Scope}
theorem CT.cx (c : CT X P w base G k N sc sf) : CxOk X G k := c.cc.ok
theorem rlS_eq {scope sc : Scope} {env : PySem.Env} (h : env.scope = sc) : relabel scope env = rlS scope sc := by
  subst h
  rfl
theorem CT.blk (c : CT X P w base G k N sc sf) {s : Shared} {H : Hp} {scope : Scope} {C : Addr} {cl : List (Str × Addr)} {fp : List Addr} : CT (X.blk s H scope (compEnvC scope cl C X.env) fp) P w base G k N (rlS scope sc) scope where
  cc := ⟨⟨c.cx.K, c.cx.mg, c.cx.calm, c.cx.nd, c.cx.room, rfl⟩, fun x h => by
    show (scope.names.lookup x == some NameKind.cell) = true
    rw [h]
    rfl, c.cc.N, rlS_eq c.cc.sc⟩
  s3 := ⟨c.s3.P, c.s3.w, c.s3.base⟩
theorem t_gl (c : CT X P w base G k N sc sf) {x : Str} (h : glB sc x = true) : Gl X x := by
  unfold glB at h
  rw [Bool.and_eq_true] at h
  show X.env.scope.names.lookup x = _
  rw [c.cc.sc]
  exact of_decide_eq_true h.1
theorem glB_dbg {x : Str} (h : glB sc x = true) : (x == ("__debug__" : Str)) = false := by
  unfold glB at h
  rw [Bool.and_eq_true] at h
  exact (noDbg_ok h.2).1
theorem t_pv (c : CT X P w base G k N sc sf) {i : Nat} {x : Str} {pos : Pos} (h : nmB N sc i x = true) : PE X (.Name x pos) (tVar i) := by
  unfold nmB at h
  rw [Bool.and_eq_true, Bool.and_eq_true] at h
  obtain ⟨h1, h2, h3⟩ := h
  exact pe_var (by rw [c.cc.N]; exact of_decide_eq_true h1) (by rw [c.cc.sc]; exact visB_ok h2) (noDbg_ok h3).1 (noDbg_ok h3).2
theorem t_sl (c : CT X P w base G k N sc sf) {i : Nat} {x : Str} {pos : Pos} (h : nmB N sc i x = true) : PE X (.Name x pos) ((Opd.sl i).te G) := t_pv c h
theorem t_ex {e : Expr} {m : OW} (h : SO X G e m) : PE X e ((Opd.ex m).te G) := h
theorem t_var (c : CT X P w base G k N sc sf) {i : Nat} {x : Str} {pos : Pos} (h : nmB N sc i x = true) : SO X G (.Name x pos) (oVar i) := so_var (t_pv c h)
theorem t_int {i : Int} {j pos} : SO X G (.Constant (.int i) j pos) (oC (.int i)) := so_c pe_int fun _ _ => .int _
theorem t_str {i : Str} {j pos} : SO X G (.Constant (.str i) j pos) (oC (.str i)) := so_c pe_str fun _ _ => .str _
theorem t_bl {b : Bool} {j pos} : SO X G (.Constant (.bool b) j pos) (oC (.bl b)) := so_c pe_bl fun _ _ => .bl _
theorem t_none {j pos} : SO X G (.Constant .none j pos) (oC .non) := so_c pe_non fun _ _ => .non
theorem t_gint (c : CT X P w base G k N sc sf) {x : Str} {i : Int} {pos : Pos} (hm : ∃ t, G.mg x = some (.int i t)) (h : glB sc x = true) : SO X G (.Name x pos) (oC (.int i)) := by
  obtain ⟨t, hm⟩ := hm
  exact so_c (pe_glob (v := .int i) (t_gl c h) (by rw [c.cx.mg]; exact hm) ⟨t, rfl⟩ (glB_dbg h)) fun _ _ => .int _
theorem t_gstr (c : CT X P w base G k N sc sf) {x z : Str} {pos : Pos} (hm : ∃ t, G.mg x = some (.str z t)) (h : glB sc x = true) : SO X G (.Name x pos) (oC (.str z)) := by
  obtain ⟨t, hm⟩ := hm
  exact so_c (pe_glob (v := .str z) (t_gl c h) (by rw [c.cx.mg]; exact hm) ⟨t, rfl⟩ (glB_dbg h)) fun _ _ => .str _
theorem t_ty (c : CT X P w base G k N sc sf) {x : Str} {n : String} {pos : Pos} (hm : G.mg x = none) (h : glB sc x = true) (hv : bootBuiltins x = some (.type n)) (hn : x ≠ "__name__") : SO X G (.Name x pos) (oC (.ty n)) :=
  so_c (pe_bltn (v := .ty n) (t_gl c h) (by rw [c.cx.mg]; exact hm) hv rfl hn (glB_dbg h)) fun _ _ => .ty _
/-- a def by name -/
structure FnG (P : Program) (w : World) (base : Heap) (G : Gv) (k : Nat) (x : Str) (n : Nat) (F : FW) : Prop where
  ex : ∃ (f : Addr) (fd : FuncData) (ps : List Str), FnOk P w G.K G.mg base CX0 k f fd ps (spOf G n F) ∧ G.mg x = some (.ref f) ∧ PySem.W.keepIn G.K (.ref f) = true ∧ Binds G.K fd ps []
theorem t_fn (c : CT X P w base G k N sc sf) {j n : Nat} {F : FW} {x : Str} {pos : Pos} (f : FnG P w base G j x n F) (h : glB sc x = true) : SO X G (.Name x pos) (oC (.fn x)) := by
  obtain ⟨f, fd, ps, _, hm, _, _⟩ := f.ex
  exact so_c (pe_glob (v := .ref f) (t_gl c h) (by rw [c.cx.mg]; exact hm) rfl (glB_dbg h)) fun _ _ => .fn hm
theorem CT.fnOk (c : CT X P w base G k N sc sf) {j n : Nat} {F : FW} {f : Addr} {fd : FuncData} {ps : List Str} (FO : FnOk P w G.K G.mg base CX0 j f fd ps (spOf G n F)) (hj : j ≤ k) : FnOk X.prog X.w X.K X.mg X.base CX0 k f fd ps (spOf G n F) := by
  rw [c.s3.P, c.s3.w, c.s3.base, c.cx.K, c.cx.mg]
  exact FO.mono hj
theorem t_call (c : CT X P w base G k N sc sf) {j n : Nat} {F : FW} {x : Str} {p pos : Pos} {e : Expr} {es : List Expr} {ms : List OW} (f : FnG P w base G j x n F) (hj : j ≤ k) (h : glB sc x = true) (ha : PA X (e :: es) (argsTA G ms)) (hs : (e :: es).any isStar = false) : SO X G (.Call (.Name x p) (e :: es) [] pos) (oCall n F ms) := by
  obtain ⟨f, fd, ps, FO, hm, hk, hb⟩ := f.ex
  exact so_call c.cx (c.fnOk FO hj) (t_gl c h) (by rw [c.cx.mg]; exact hm) (by rw [c.cx.K]; exact hk) (by rw [c.cx.K]; exact hb) ha hs (glB_dbg h)
theorem t_callL (c : CT X P w base G k N sc sf) {j n i : Nat} {F : FW} {x z : Str} {p pos : Pos} {e : Expr} {es : List Expr} {ms : List OW} (f : FnG P w base G j z n F) (hj : j ≤ k) (h : nmB N sc i x = true) (ha : PA X (e :: es) (argsTA G ms)) (hs : (e :: es).any isStar = false) : SO X G (.Call (.Name x p) (e :: es) [] pos) (oCallL i z n F ms) := by
  obtain ⟨f, fd, ps, FO, hm, hk, hb⟩ := f.ex
  unfold nmB at h
  rw [Bool.and_eq_true, Bool.and_eq_true] at h
  obtain ⟨h1, h2, h3⟩ := h
  exact so_callL c.cx (c.fnOk FO hj) (by rw [c.cc.N]; exact of_decide_eq_true h1) (by rw [c.cc.sc]; exact visB_ok h2) hm (by rw [c.cx.K]; exact hk) (by rw [c.cx.K]; exact hb) ha hs (noDbg_ok h3).1 (noDbg_ok h3).2
/-- a def's call by keywords alone -/
structure FnK (P : Program) (w : World) (base : Heap) (G : Gv) (k : Nat) (x : Str) (ks : List Str) (pm : List Nat) (n : Nat) (F : FW) : Prop where
  ex : ∃ (f : Addr) (fd : FuncData) (ps : List Str), FnOk P w G.K G.mg base CX0 k f fd ps (spOf G n F) ∧ G.mg x = some (.ref f) ∧ PySem.W.keepIn G.K (.ref f) = true ∧ KBn G.K fd ps 0 ks (fun _ ws => pick pm ws) (fun _ zs => pick pm zs)
def kwNames (kws : List Keyword) : List (Option Str) := kws.map (·.arg)
theorem backToKw_fst {pos : Pos} {env : PySem.Env} : ∀ {kws : List Keyword}, (backToKw pos (keywordEach kws env)).map (·.1) = kwNames kws
  | [] => rfl
  | ⟨n, v, p⟩ :: r => congrArg (n :: ·) (backToKw_fst (pos := pos) (env := env) (kws := r))
theorem t_callK (c : CT X P w base G k N sc sf) {j n : Nat} {F : FW} {x : Str} {ks : List Str} {pm : List Nat} {p pos : Pos} {kws : List Keyword} {ms : List OW} (f : FnK P w base G j x ks pm n F) (hj : j ≤ k) (h : glB sc x = true) (ha : PK X kws (argsTA G ms)) (hl : ms.length = ks.length) (hn : kwNames kws = ks.map some) : SO X G (.Call (.Name x p) [] kws pos) (oCallK n F pm ms) := by
  obtain ⟨f, fd, ps, FO, hm, hk, hb⟩ := f.ex
  have e := backToKw_fst (pos := pos) (env := X.env) (kws := kws)
  rw [hn] at e
  refine so_callK c.cx (c.fnOk FO hj) (t_gl c h) (by rw [c.cx.mg]; exact hm) (by rw [c.cx.K]; exact hk) (by rw [c.cx.K]; exact hb) ha hl ?_ ?_ ?_ (glB_dbg h)
  · have : (backToKw pos (keywordEach kws X.env)).all (·.1.isSome) = ((backToKw pos (keywordEach kws X.env)).map (·.1)).all (·.isSome) := by rw [List.all_map]; rfl
    rw [this, e]
    simp
  · have : (backToKw pos (keywordEach kws X.env)).filterMap (·.1) = ((backToKw pos (keywordEach kws X.env)).map (·.1)).filterMap id := by rw [List.filterMap_map]; rfl
    rw [this, e, List.filterMap_map]
    induction ks with
    | nil => rfl
    | cons a l ih => simp
  · have : (backToKw pos (keywordEach kws X.env)).any (·.1.isNone) = ((backToKw pos (keywordEach kws X.env)).map (·.1)).any (·.isNone) := by rw [List.any_map]; rfl
    rw [this, e]
    show (false || _) = false
    simp
theorem t_pk (h : PK X [] (argsTA G [])) : PK X [] (argsTA G []) := h
theorem t_knil : PK X [] (argsTA G []) := pk_nil
theorem t_kcons {nm : Option Str} {e : Expr} {kpos : Pos} {kws : List Keyword} {m : OW} {ms : List OW} (h : SO X G e m) (r : PK X kws (argsTA G ms)) : PK X (⟨nm, e, kpos⟩ :: kws) (argsTA G (m :: ms)) := pk_cons h r
theorem t_anil : PA X [] (argsTA G []) := pa_nil
theorem t_acons {e : Expr} {es : List Expr} {m : OW} {ms : List OW} (h : SO X G e m) (hs : isStar e = false) (r : PA X es (argsTA G ms)) : PA X (e :: es) (argsTA G (m :: ms)) := pa_cons h r (hs := star_cons hs)
theorem t_onil : PA X [] (opsTA G []) := pa_nil
theorem t_ocons {e : Expr} {es : List Expr} {o : Opd} {os : List Opd} (h : PE X e (o.te G)) (hs : isStar e = false) (r : PA X es (opsTA G os)) : PA X (e :: es) (opsTA G (o :: os)) := pa_cons h r (hs := star_cons hs)
/-! builtins -/
theorem t_B (c : CT X P w base G k N sc sf) {x id : String} {W : PrW} {p pos : Pos} {e : Expr} {es : List Expr} {ops : List Opd} (hc : CallR X (.builtin id) (rPrim G W)) (hm : G.mg x = none) (h : glB sc x = true) (hv : bootBuiltins (x : Str) = some (.builtin id)) (ha : PA X (e :: es) (opsTA G ops)) (hs : (e :: es).any isStar = false)
    (hn : (x : Str) ≠ "__name__") : SO X G (.Call (.Name x p) (e :: es) [] pos) (oPrim W ops) := so_callB hc (t_gl c h) (by rw [c.cx.mg]; exact hm) hv ha hs hn (glB_dbg h)
theorem t_T (c : CT X P w base G k N sc sf) {x id : String} {W : PrW} {p pos : Pos} {e : Expr} {es : List Expr} {ops : List Opd} (hc : CallR X (.type id) (rPrim G W)) (hm : G.mg x = none) (h : glB sc x = true) (hv : bootBuiltins (x : Str) = some (.type id)) (ha : PA X (e :: es) (opsTA G ops)) (hs : (e :: es).any isStar = false)
    (hn : (x : Str) ≠ "__name__") : SO X G (.Call (.Name x p) (e :: es) [] pos) (oPrim W ops) := so_callTy hc (t_gl c h) (by rw [c.cx.mg]; exact hm) hv ha hs hn (glB_dbg h)
section
variable {p pos : Pos} {e : Expr} {es : List Expr} {ops : List Opd}
theorem t_len (c : CT X P w base G k N sc sf) (hm : G.mg "len" = none) (h : glB sc "len" = true) (ha : PA X (e :: es) (opsTA G ops)) (hs : (e :: es).any isStar = false) : SO X G (.Call (.Name "len" p) (e :: es) [] pos) (oPrim (lift1 pLen) ops) := t_B c (cr_len c.cx) hm h boot_len ha hs (by decide)
theorem t_isi (c : CT X P w base G k N sc sf) (hm : G.mg "isinstance" = none) (h : glB sc "isinstance" = true) (ha : PA X (e :: es) (opsTA G ops)) (hs : (e :: es).any isStar = false) : SO X G (.Call (.Name "isinstance" p) (e :: es) [] pos) (oPrim (lift2 pIsi) ops) := t_B c (cr_isi c.cx) hm h boot_isinstance ha hs (by decide)
theorem t_all (c : CT X P w base G k N sc sf) (hm : G.mg "all" = none) (h : glB sc "all" = true) (ha : PA X (e :: es) (opsTA G ops)) (hs : (e :: es).any isStar = false) : SO X G (.Call (.Name "all" p) (e :: es) [] pos) (oPrim (lift1 pAll) ops) := t_B c (cr_allP c.cx) hm h boot_all ha hs (by decide)
theorem t_any (c : CT X P w base G k N sc sf) (hm : G.mg "any" = none) (h : glB sc "any" = true) (ha : PA X (e :: es) (opsTA G ops)) (hs : (e :: es).any isStar = false) : SO X G (.Call (.Name "any" p) (e :: es) [] pos) (oPrim (lift1 pAny) ops) := t_B c (cr_anyP c.cx) hm h boot_any ha hs (by decide)
theorem t_sum (c : CT X P w base G k N sc sf) (hm : G.mg "sum" = none) (h : glB sc "sum" = true) (ha : PA X (e :: es) (opsTA G ops)) (hs : (e :: es).any isStar = false) : SO X G (.Call (.Name "sum" p) (e :: es) [] pos) (oPrim (lift1 pSum) ops) := t_B c (cr_sumP c.cx) hm h boot_sum ha hs (by decide)
theorem t_max (c : CT X P w base G k N sc sf) (hm : G.mg "max" = none) (h : glB sc "max" = true) (ha : PA X (e :: es) (opsTA G ops)) (hs : (e :: es).any isStar = false) : SO X G (.Call (.Name "max" p) (e :: es) [] pos) (oPrim pMax ops) := t_B c (cr_maxP c.cx) hm h boot_max ha hs (by decide)
theorem t_min (c : CT X P w base G k N sc sf) (hm : G.mg "min" = none) (h : glB sc "min" = true) (ha : PA X (e :: es) (opsTA G ops)) (hs : (e :: es).any isStar = false) : SO X G (.Call (.Name "min" p) (e :: es) [] pos) (oPrim pMin ops) := t_B c (cr_minP c.cx) hm h boot_min ha hs (by decide)
theorem t_abs (c : CT X P w base G k N sc sf) (hm : G.mg "abs" = none) (h : glB sc "abs" = true) (ha : PA X (e :: es) (opsTA G ops)) (hs : (e :: es).any isStar = false) : SO X G (.Call (.Name "abs" p) (e :: es) [] pos) (oPrim (lift1 pAbs) ops) := t_B c cr_absP hm h boot_abs ha hs (by decide)
theorem t_sorted (c : CT X P w base G k N sc sf) (hm : G.mg "sorted" = none) (h : glB sc "sorted" = true) (ha : PA X (e :: es) (opsTA G ops)) (hs : (e :: es).any isStar = false) : SO X G (.Call (.Name "sorted" p) (e :: es) [] pos) (oPrim (lift1 pSorted) ops) := t_B c (cr_sortedQ c.cx) hm h boot_sorted ha hs (by decide)
theorem t_int_ (c : CT X P w base G k N sc sf) (hm : G.mg "int" = none) (h : glB sc "int" = true) (ha : PA X (e :: es) (opsTA G ops)) (hs : (e :: es).any isStar = false) : SO X G (.Call (.Name "int" p) (e :: es) [] pos) (oPrim (lift1 pInt) ops) := t_T c cr_intP hm h boot_int ha hs (by decide)
theorem t_str_ (c : CT X P w base G k N sc sf) (hm : G.mg "str" = none) (h : glB sc "str" = true) (ha : PA X (e :: es) (opsTA G ops)) (hs : (e :: es).any isStar = false) : SO X G (.Call (.Name "str" p) (e :: es) [] pos) (oPrim (lift1 pStr) ops) := t_T c cr_strP hm h boot_str ha hs (by decide)
theorem t_tuple_ (c : CT X P w base G k N sc sf) (hm : G.mg "tuple" = none) (h : glB sc "tuple" = true) (ha : PA X (e :: es) (opsTA G ops)) (hs : (e :: es).any isStar = false) : SO X G (.Call (.Name "tuple" p) (e :: es) [] pos) (oPrim (lift1 pTuple) ops) := t_T c (cr_tupleP c.cx) hm h boot_tuple ha hs (by decide)
theorem t_list_ (c : CT X P w base G k N sc sf) (hm : G.mg "list" = none) (h : glB sc "list" = true) (ha : PA X (e :: es) (opsTA G ops)) (hs : (e :: es).any isStar = false) : SO X G (.Call (.Name "list" p) (e :: es) [] pos) (oPrim (lift1 pList) ops) := t_T c (cr_listP c.cx) hm h boot_list ha hs (by decide)
end
section
variable {p p2 pos pos2 : Pos} {a b : Expr} {m u : OW}
theorem t_listRg1 (c : CT X P w base G k N sc sf) (hm : G.mg "list" = none) (hm2 : G.mg "range" = none) (h : glB sc "list" = true) (h2 : glB sc "range" = true) (ha : SO X G a m) (hs : isStar a = false) : SO X G (.Call (.Name "list" p) [.Call (.Name "range" p2) [a] [] pos2] [] pos) (rgW (iRange1 m) false) :=
  so_listRg1 c.cx ha hs (t_gl c h) (by rw [c.cx.mg]; exact hm) (t_gl c h2) (by rw [c.cx.mg]; exact hm2)
theorem t_tupRg1 (c : CT X P w base G k N sc sf) (hm : G.mg "tuple" = none) (hm2 : G.mg "range" = none) (h : glB sc "tuple" = true) (h2 : glB sc "range" = true) (ha : SO X G a m) (hs : isStar a = false) : SO X G (.Call (.Name "tuple" p) [.Call (.Name "range" p2) [a] [] pos2] [] pos) (rgW (iRange1 m) true) :=
  so_tupRg1 c.cx ha hs (t_gl c h) (by rw [c.cx.mg]; exact hm) (t_gl c h2) (by rw [c.cx.mg]; exact hm2)
theorem t_listRg2 (c : CT X P w base G k N sc sf) (hm : G.mg "list" = none) (hm2 : G.mg "range" = none) (h : glB sc "list" = true) (h2 : glB sc "range" = true) (ha : SO X G a m) (hs : isStar a = false) (hb : SO X G b u) (hs2 : isStar b = false) : SO X G (.Call (.Name "list" p) [.Call (.Name "range" p2) [a, b] [] pos2] [] pos) (rgW (iRange2 m u) false) :=
  so_listRg2 c.cx ha hb hs hs2 (t_gl c h) (by rw [c.cx.mg]; exact hm) (t_gl c h2) (by rw [c.cx.mg]; exact hm2)
/-! what is walked -/
variable {tg : Expr}
theorem t_iseq (c : CT X P w base G k N sc sf) (h : SO X G a m) : SI X G tg a (iSeq m) := si_seq c.cx h
theorem t_irange1 (c : CT X P w base G k N sc sf) (hm : G.mg "range" = none) (h : glB sc "range" = true) (ha : SO X G a m) (hs : isStar a = false) : SI X G tg (.Call (.Name "range" p) [a] [] pos) (iRange1 m) := si_range1 ha hs (t_gl c h) (by rw [c.cx.mg]; exact hm)
theorem t_irange2 (c : CT X P w base G k N sc sf) (hm : G.mg "range" = none) (h : glB sc "range" = true) (ha : SO X G a m) (hs : isStar a = false) (hb : SO X G b u) (hs2 : isStar b = false) : SI X G tg (.Call (.Name "range" p) [a, b] [] pos) (iRange2 m u) := si_range2 ha hb hs hs2 (t_gl c h) (by rw [c.cx.mg]; exact hm)
theorem t_ienum (c : CT X P w base G k N sc sf) {elts : List Expr} {kk : Nat} {tpos : Pos} (hm : G.mg "enumerate" = none) (h : glB sc "enumerate" = true) (ha : SO X G a m) (hs : isStar a = false) : SI X G (.Tuple elts kk tpos) (.Call (.Name "enumerate" p) [a] [] pos) (iEnum' m) := si_enumA c.cx ha hs (t_gl c h) (by rw [c.cx.mg]; exact hm)
end
/-! targets, stores -/
theorem tgB_ok (c : CT X P w base G k N sc sf) {i : Nat} {x : Str} (h : tgB N sc sf i x = true) : X.N[i]? = some x ∧ L2.Loc X.env.scope x ∧ (X.fn x = true ∨ X.env.scope.names.lookup x = some .local) := by
  unfold tgB at h
  rw [Bool.and_eq_true] at h
  obtain ⟨h1, h2⟩ := h
  rw [Bool.or_eq_true, Bool.and_eq_true] at h2
  rcases h2 with h3 | ⟨h3, h4⟩
  · have h3 := of_decide_eq_true h3
    exact ⟨by rw [c.cc.N]; exact of_decide_eq_true h1, .inl (by rw [c.cc.sc]; exact h3), .inr (by rw [c.cc.sc]; exact h3)⟩
  · have h3 := of_decide_eq_true h3
    exact ⟨by rw [c.cc.N]; exact of_decide_eq_true h1, .inr (by rw [c.cc.sc]; exact h3), .inl (c.cc.fn _ (of_decide_eq_true h4))⟩
theorem t_gnm (c : CT X P w base G k N sc sf) {i : Nat} {x : Str} {pos : Pos} (h : tgB N sc sf i x = true) : SG X G (.Name x pos) [i] (gNm i) :=
  let ⟨h1, h2, h3⟩ := tgB_ok c h
  sg_name c.cx h1 h2 h3
theorem t_gtup (c : CT X P w base G k N sc sf) {es : List Expr} {ts : List Nat} {gs : List GW} {kk : Nat} {pos : Pos} (h : PGs X es (tSGs G ts gs)) (hs : es.any isStar = false) (hl : gs.length = es.length) : SG X G (.Tuple es kk pos) ts (gTup gs) := sg_tuple c.cx h hs hl
theorem t_gput (c : CT X P w base G k N sc sf) {e : Expr} {i : Nat} {x : Str} {o : Opd} {p pos : Pos} (h : nmB N sc i x = true) (he : PE X e (o.te G)) (hns : isSlice e = false) : SG X G (.Subscript (.Name x p) e pos) [] (gPut i o) := sg_put c.cx (t_pv c h) he hns
theorem t_set (c : CT X P w base G k N sc sf) {i : Nat} {x : Str} {e : Expr} {m : OW} {pos pos' : Pos} (h : tgB N sc sf i x = true) (he : SO X G e m) (hs : isCompr e = false) : SS X G (.Assign [.Name x pos'] e pos) (sSet i m) :=
  let ⟨h1, h2, h3⟩ := tgB_ok c h
  ss_set c.cx h1 h2 he (noSwap hs) h3
theorem env_all {p : PySem.Env → Prop} (env : PySem.Env) {sc : Scope} (h : env.scope = sc) (q : ∀ env' : PySem.Env, p { env' with scope := sc }) : p env := by
  have := q env
  rw [← h] at this
  exact this
theorem t_tgt (c : CT X P w base G k N sc sf) {tg e : Expr} {ts : List Nat} {g : GW} {m : OW} {pos : Pos} (he : SO X G e m) (hg : SG X G tg ts g) (hs : isCompr e = false) (ht : isStar tg = false) (hw : ∀ env : PySem.Env, swappedStores [tg] e { env with scope := sc } = pure none) : SS X G (.Assign [tg] e pos) (sTgt g m) :=
  ss_tgt he hg hs (env_all (p := fun env => swappedStores [tg] e env = pure none) X.env c.cc.sc hw) ht
theorem t_par2 (c : CT X P w base G k N sc sf) {i j : Nat} {x y : Str} {a b : Expr} {m u : OW} {px py pt pos : Pos} {kt k2 pt2} (hi : tgB N sc sf i x = true) (hj : tgB N sc sf j y = true) (hij : i ≠ j) (hx : sc.names.lookup x = some .local) (hy : sc.names.lookup y = some .local) (ha : PA X [a, b] (argsTA G [m, u]))
    (hw : ∀ env : PySem.Env, swappedStores [.Tuple [.Name x px, .Name y py] kt pt] (.Tuple [a, b] k2 pt2) { env with scope := sc } = pure (some [x, y])) : SS X G (.Assign [.Tuple [.Name x px, .Name y py] kt pt] (.Tuple [a, b] k2 pt2) pos) (sPar [i, j] [m, u]) :=
  ss_par2 c.cx (tgB_ok c hi).1 (tgB_ok c hj).1 hij (by rw [c.cc.sc]; exact hx) (by rw [c.cc.sc]; exact hy) ha (env_all (p := fun env => swappedStores _ _ env = pure (some [x, y])) X.env c.cc.sc hw)
theorem t_par3 (c : CT X P w base G k N sc sf) {i j l : Nat} {x y z : Str} {a b d : Expr} {m u v : OW} {px py pz pt pos : Pos} {kt k2 pt2} (hi : tgB N sc sf i x = true) (hj : tgB N sc sf j y = true) (hl : tgB N sc sf l z = true) (hij : i ≠ j) (hil : i ≠ l) (hjl : j ≠ l) (hx : sc.names.lookup x = some .local) (hy : sc.names.lookup y = some .local) (hz : sc.names.lookup z = some .local) (ha : PA X [a, b, d] (argsTA G [m, u, v]))
    (hw : ∀ env : PySem.Env, swappedStores [.Tuple [.Name x px, .Name y py, .Name z pz] kt pt] (.Tuple [a, b, d] k2 pt2) { env with scope := sc } = pure (some [x, y, z])) : SS X G (.Assign [.Tuple [.Name x px, .Name y py, .Name z pz] kt pt] (.Tuple [a, b, d] k2 pt2) pos) (sPar [i, j, l] [m, u, v]) :=
  ss_par3 c.cx (tgB_ok c hi).1 (tgB_ok c hj).1 (tgB_ok c hl).1 hij hil hjl (by rw [c.cc.sc]; exact hx) (by rw [c.cc.sc]; exact hy) (by rw [c.cc.sc]; exact hz) ha (env_all (p := fun env => swappedStores _ _ env = pure (some [x, y, z])) X.env c.cc.sc hw)
/-! comprehensions -/
def blkB (N : List Str) (sc scope : Scope) (own : List (Str × Nat)) : Bool :=
  decide (scope.kind = .function) && ((scope.names.all fun y => decide (scope.names.lookup y.1 = some y.2)) && ((own.all fun p => decide (N[p.2]? = some p.1)) && ((scope.names.all fun y => if y.2 = .free then decide (sc.names.lookup y.1 = some .cell) || decide (sc.names.lookup y.1 = some .free) else true) &&
    scope.names.all fun y => if y.2 = .local ∨ y.2 = .cell then (own.map (·.1)).contains y.1 || !N.contains y.1 else true)))
theorem blkB_ok {scope : Scope} {own : List (Str × Nat)} (h : blkB N sc scope own = true) : BlkOk N sc scope own := by
  unfold blkB at h
  simp only [Bool.and_eq_true, List.all_eq_true] at h
  obtain ⟨h1, h2, h3, h4, h5⟩ := h
  refine ⟨of_decide_eq_true h1, fun y hy => of_decide_eq_true (h2 y hy), fun p hp => of_decide_eq_true (h3 p hp), fun y hy e => ?_, fun y hy e => ?_⟩
  · have := h4 y hy
    rw [if_pos e, Bool.or_eq_true] at this
    exact this.imp of_decide_eq_true of_decide_eq_true
  · have := h5 y hy
    rw [if_pos e, Bool.or_eq_true] at this
    refine this.imp (fun z => by simpa using z) (fun z => by simpa using z)
theorem CT.blkOk (c : CT X P w base G k N sc sf) {scope : Scope} {own : List (Str × Nat)} (h : blkB N sc scope own = true) : BlkOk X.N X.env.scope scope own := by
  rw [c.cc.N, c.cc.sc]
  exact blkB_ok h
def subB (ts vs : List Nat) : Bool := ts.all vs.contains
theorem subB_ok {ts vs : List Nat} (h : subB ts vs = true) : ∀ i ∈ ts, i ∈ vs := by
  unfold subB at h
  intro i hi
  simpa using List.all_eq_true.mp h i hi
/-- what a block's parts are judged in -/
abbrev InBlk (P : Program) (w : World) (base : Heap) (G : Gv) (k : Nat) (N : List Str) (sc sf : Scope) (J : Cx → Prop) : Prop := ∀ X : Cx, CT X P w base G k N sc sf → J X
theorem t_comp (c : CT X P w base G k N sc sf) {elt tg iter : Expr} {ifs : List Expr} {scope : Scope} {pos : Pos} {w' : IW} {ts : List Nat} {gw : GW} {tw : TW} {m : OW} (own : List (Str × Nat)) (hi : SI X G tg iter w') (ok : blkB N sc scope own = true) (hsub : subB ts (own.map (·.2)) = true)
    (hg : InBlk P w base G k N (rlS scope sc) scope fun Y => SG Y G tg ts gw) (ht : InBlk P w base G k N (rlS scope sc) scope fun Y => PTs Y ifs (tST G tw)) (he : InBlk P w base G k N (rlS scope sc) scope fun Y => SO Y G elt m) (hs : ∀ (env : PySem.Env) x, foldedSetIterable iter env x = pure x) :
    SO X G (.ListComp elt [⟨tg, iter, ifs, 0⟩] scope pos) (oComp (own.map (·.2)) w' gw tw m) :=
  so_comp c.cx hi (c.blkOk ok) (fun _ _ _ _ _ => hg _ c.blk) (fun _ _ _ _ _ => ht _ c.blk) (fun _ _ _ _ _ => he _ c.blk) (hs _) (subB_ok hsub)
theorem t_comp2 (c : CT X P w base G k N sc sf) {elt tg iter tg1 iter1 : Expr} {ifs ifs1 : List Expr} {scope : Scope} {pos : Pos} {w' w1 : IW} {ts ts1 : List Nat} {gw gw1 : GW} {tw tw1 : TW} {m : OW} (own : List (Str × Nat)) (vs1 : List Nat) (hi : SI X G tg iter w') (ok : blkB N sc scope own = true) (hsub : subB ts (own.map (·.2)) = true) (hv : subB vs1 (own.map (·.2)) = true) (hsub1 : subB ts1 vs1 = true)
    (hg : InBlk P w base G k N (rlS scope sc) scope fun Y => SG Y G tg ts gw) (ht : InBlk P w base G k N (rlS scope sc) scope fun Y => PTs Y ifs (tST G tw)) (hi1 : InBlk P w base G k N (rlS scope sc) scope fun Y => SI Y G tg1 iter1 w1) (hg1 : InBlk P w base G k N (rlS scope sc) scope fun Y => SG Y G tg1 ts1 gw1) (ht1 : InBlk P w base G k N (rlS scope sc) scope fun Y => PTs Y ifs1 (tST G tw1)) (he : InBlk P w base G k N (rlS scope sc) scope fun Y => SO Y G elt m) (hs : ∀ (env : PySem.Env) x, foldedSetIterable iter env x = pure x) (hs1 : ∀ (env : PySem.Env) x, foldedSetIterable iter1 env x = pure x) :
    SO X G (.ListComp elt [⟨tg, iter, ifs, 0⟩, ⟨tg1, iter1, ifs1, 0⟩] scope pos) (oComp2 (own.map (·.2)) vs1 w' gw tw w1 gw1 tw1 m) :=
  so_comp2 c.cx hi (c.blkOk ok) (subB_ok hv) (fun _ _ _ _ _ => hg _ c.blk) (fun _ _ _ _ _ => ht _ c.blk) (fun _ _ _ _ _ => hi1 _ c.blk) (fun _ _ _ _ _ => hg1 _ c.blk) (fun _ _ _ _ _ => ht1 _ c.blk) (fun _ _ _ _ _ => he _ c.blk) (hs _) hs1 (subB_ok hsub) (subB_ok hsub1)
theorem t_setComp (c : CT X P w base G k N sc sf) {i : Nat} {y : Str} {py spos : Pos} {elt tg iter : Expr} {ifs : List Expr} {scope : Scope} {pos : Pos} {w' : IW} {ts : List Nat} {gw : GW} {tw : TW} {m : OW} (own : List (Str × Nat)) (hy : tgB N sc sf i y = true) (hyl : sc.names.lookup y = some .local) (hsw : ∀ env : PySem.Env, swapsWith (.ListComp elt [⟨tg, iter, ifs, 0⟩] scope pos) (some (.Name y py)) spos.line { env with scope := sc } = pure true) (hi : SI X G tg iter w') (ok : blkB N sc scope own = true) (hsub : subB ts (own.map (·.2)) = true)
    (hg : InBlk P w base G k N (rlS scope sc) scope fun Y => SG Y G tg ts gw) (ht : InBlk P w base G k N (rlS scope sc) scope fun Y => PTs Y ifs (tST G tw)) (he : InBlk P w base G k N (rlS scope sc) scope fun Y => SO Y G elt m) (hs : ∀ (env : PySem.Env) x, foldedSetIterable iter env x = pure x) :
    SS X G (.Assign [.Name y py] (.ListComp elt [⟨tg, iter, ifs, 0⟩] scope pos) spos) (sSet i (oComp (own.map (·.2)) w' gw tw m)) :=
  ss_setComp c.cx (tgB_ok c hy).1 (by rw [c.cc.sc]; exact hyl) (env_all (p := fun env => swapsWith _ _ _ env = pure true) X.env c.cc.sc hsw) hi (c.blkOk ok) (fun _ _ _ _ _ => hg _ c.blk) (fun _ _ _ _ _ => ht _ c.blk) (fun _ _ _ _ _ => he _ c.blk) (hs _) (subB_ok hsub)
theorem t_setComp2 (c : CT X P w base G k N sc sf) {i : Nat} {y : Str} {py spos : Pos} {elt tg iter tg1 iter1 : Expr} {ifs ifs1 : List Expr} {scope : Scope} {pos : Pos} {w' w1 : IW} {ts ts1 : List Nat} {gw gw1 : GW} {tw tw1 : TW} {m : OW} (own : List (Str × Nat)) (vs1 : List Nat) (hy : tgB N sc sf i y = true) (hyl : sc.names.lookup y = some .local) (hsw : ∀ env : PySem.Env, swapsWith (.ListComp elt [⟨tg, iter, ifs, 0⟩, ⟨tg1, iter1, ifs1, 0⟩] scope pos) (some (.Name y py)) spos.line { env with scope := sc } = pure true) (hi : SI X G tg iter w') (ok : blkB N sc scope own = true) (hsub : subB ts (own.map (·.2)) = true) (hv : subB vs1 (own.map (·.2)) = true) (hsub1 : subB ts1 vs1 = true)
    (hg : InBlk P w base G k N (rlS scope sc) scope fun Y => SG Y G tg ts gw) (ht : InBlk P w base G k N (rlS scope sc) scope fun Y => PTs Y ifs (tST G tw)) (hi1 : InBlk P w base G k N (rlS scope sc) scope fun Y => SI Y G tg1 iter1 w1) (hg1 : InBlk P w base G k N (rlS scope sc) scope fun Y => SG Y G tg1 ts1 gw1) (ht1 : InBlk P w base G k N (rlS scope sc) scope fun Y => PTs Y ifs1 (tST G tw1)) (he : InBlk P w base G k N (rlS scope sc) scope fun Y => SO Y G elt m) (hs : ∀ (env : PySem.Env) x, foldedSetIterable iter env x = pure x) (hs1 : ∀ (env : PySem.Env) x, foldedSetIterable iter1 env x = pure x) :
    SS X G (.Assign [.Name y py] (.ListComp elt [⟨tg, iter, ifs, 0⟩, ⟨tg1, iter1, ifs1, 0⟩] scope pos) spos) (sSet i (oComp2 (own.map (·.2)) vs1 w' gw tw w1 gw1 tw1 m)) :=
  ss_setComp2 c.cx (tgB_ok c hy).1 (by rw [c.cc.sc]; exact hyl) (env_all (p := fun env => swapsWith _ _ _ env = pure true) X.env c.cc.sc hsw) hi (c.blkOk ok) (subB_ok hv) (fun _ _ _ _ _ => hg _ c.blk) (fun _ _ _ _ _ => ht _ c.blk) (fun _ _ _ _ _ => hi1 _ c.blk) (fun _ _ _ _ _ => hg1 _ c.blk) (fun _ _ _ _ _ => ht1 _ c.blk) (fun _ _ _ _ _ => he _ c.blk) (hs _) hs1 (subB_ok hsub) (subB_ok hsub1)
/-! methods of texts -/
section
variable {x e : Expr} {o oe : Opd} {apos cpos : Pos}
theorem t_join (c : CT X P w base G k N sc sf) (hx : PE X x (o.te G)) (he : PE X e (oe.te G)) (hb : noSup x = true) (hs : isStar e = false) (hl : (apos.endLine == cpos.line) = true) : SO X G (.Call (.Attribute x "join" apos) [e] [] cpos) (oMeth (lift2 pJoin) o [oe]) := so_meth1 PySem.F.slot_str_join PySem.F.type_str_join (mt_joinP c.cx) hx he hb hs hl
theorem t_split (c : CT X P w base G k N sc sf) (hx : PE X x (o.te G)) (he : PE X e (oe.te G)) (hb : noSup x = true) (hs : isStar e = false) (hl : (apos.endLine == cpos.line) = true) : SO X G (.Call (.Attribute x "split" apos) [e] [] cpos) (oMeth (lift2 pSplit) o [oe]) := so_meth1 PySem.F.slot_str_split PySem.F.type_str_split (mt_splitP c.cx) hx he hb hs hl
theorem t_ends (c : CT X P w base G k N sc sf) (hx : PE X x (o.te G)) (he : PE X e (oe.te G)) (hb : noSup x = true) (hs : isStar e = false) (hl : (apos.endLine == cpos.line) = true) : SO X G (.Call (.Attribute x "endswith" apos) [e] [] cpos) (oMeth (lift2 pEnds) o [oe]) := so_meth1 PySem.F.slot_str_endswith PySem.F.type_str_endswith (mt_endsP c.cx) hx he hb hs hl
end
end
/-! a def's promise -/
theorem t_def {P : Program} {w : World} {G : Gv} {base : Heap} {x qual : Str} {pa : Arguments} {body : List Stmt} {sc : Scope} {f : Addr} {N ps : List Str} {k : Nat} {b : SW} (F : ∃ fd, FunD G.K x qual pa body sc [] [] f fd) (S : FnScope N ps sc) (hm : G.mg x = some (.ref f))
    (hbd : ∀ (kV doc pm : Value) (an : Option Addr) (cdv ct : Value) (us : List Value), us.length = ps.length → bindArgs (PySem.W.fnOf x qual pa body sc .none kV doc pm an cdv ct) ⟨us, []⟩ = pure (ps.zip us))
    (hb : ∀ X : Cx, CT X P w base G k N sc sc → SSs X G body b) : FnG P w base G (k + 1) x ps.length (fnW N.length b) := by
  obtain ⟨fd, F⟩ := F
  exact ⟨f, fd, ps, fn_ok F S fun X c s => hb X ⟨⟨c.ok, c.fn, c.N, c.sc⟩, s⟩, hm, F.kp, F.bindsN hbd⟩
theorem t_defK {P : Program} {w : World} {G : Gv} {base : Heap} {x qual : Str} {pa : Arguments} {body : List Stmt} {sc : Scope} {f : Addr} {N ps ks : List Str} {pm : List Nat} {k : Nat} {b : SW} (F : ∃ fd, FunD G.K x qual pa body sc [] [] f fd) (S : FnScope N ps sc) (hm : G.mg x = some (.ref f))
    (hbd : ∀ (kV doc pm' : Value) (an : Option Addr) (cdv ct : Value) (ws : List Value), ws.length = ks.length → bindArgs (PySem.W.fnOf x qual pa body sc .none kV doc pm' an cdv ct) ⟨[], ks.zip ws⟩ = pure (ps.zip (pick pm ws)))
    (hb : ∀ X : Cx, CT X P w base G k N sc sc → SSs X G body b) : FnK P w base G (k + 1) x ks pm ps.length (fnW N.length b) := by
  obtain ⟨fd, F⟩ := F
  exact ⟨f, fd, ps, fn_ok F S fun X c s => hb X ⟨⟨c.ok, c.fn, c.N, c.sc⟩, s⟩, hm, F.kp, kbn_of F hbd⟩
end IL

/-! IL16: wells; divmod. -/
namespace IL
open PySem PySem.Spec PyProof.Rows L2

/-! ### well[i] = x -/
theorem Rel.writeW {G : Gv} {d : Wd} {env : Env} {σ : St} (rel : Rel G d env σ) {a : Addr} {o : HO} (ha : d.W a) (hs : Sm o) (hp : WellP o) : Rel G (d.up a o) env σ ∧ Stp d (d.up a o) := by
  have hR : (d.up a o).R = d.R := msk_upd (.inl ha)
  refine ⟨⟨⟨rel.ok.dWO, rel.ok.dWA, rel.ok.dOA, rel.ok.inj, fun b z => upd_ne_none (rel.ok.al b z), fun b z => ?_, fun b u e => ?_⟩, rel.lenA, rel.lenS, fun j x q => ?_, fun j x q => ?_⟩,
    ⟨rfl, fun b o' h hw _ => by show upd d.H a o b = some o'; rw [upd_ne (fun z => hw (by rw [z]; exact ha))]; exact h, fun b h => upd_ne_none h, fun b z => z, fun b z => .inl z, fun b z => .inl z⟩⟩
  · by_cases hb : b = a
    · subst hb; exact ⟨o, upd_same, hp⟩
    · obtain ⟨u, e, q⟩ := rel.ok.wl b z
      exact ⟨u, by show upd d.H a o b = some u; rw [upd_ne hb]; exact e, q⟩
  · have e : upd d.H a o b = some u := e
    by_cases hb : b = a
    · subst hb; rw [upd_same] at e; cases e; exact hs
    · rw [upd_ne hb] at e; exact rel.ok.sm b u e
  · rw [hR]
    exact rel.sl j x q
  · rw [hR]
    obtain ⟨a', u, h1, h2, h3, h4⟩ := rel.so j x q
    have hne : a' ≠ a := fun z => rel.ok.dWA a ha (by rw [← z]; exact List.mem_iff_getElem?.mpr ⟨j, h1⟩)
    exact ⟨a', u, h1, h2, by show upd d.H a o a' = some u; rw [upd_ne hne]; exact h3, h4⟩
def wellAt (e : Env) (i : Nat) : Prop := e[i]? = some (some (.v .well))
def gPutW (i : Nat) (j : Int) : GW := fun x env Q => wellAt env i ∧ (0 ≤ j ∧ j < 3) ∧ match x with
  | .int n => 0 ≤ n ∧ Q env
  | _ => False
section
variable {X : Cx} {P : Program} {w : World} {base : Heap} {G : Gv} {k : Nat} {N : List Str} {sc sf : Scope}
theorem t_gputW (c : CT X P w base G k N sc sf) {i : Nat} {j : Int} {x : Str} {jj : Nat} {p p2 pos : Pos} (h : nmB N sc i x = true) : SG X G (.Subscript (.Name x p) (.Constant (.int j) jj p2) pos) [] (gPutW i j) :=
  PG.imp (pg_sub (t_pv c h) pe_int (set_list) (ha := fun v => rfl)) fun v σ H Q ⟨d, env, y, Qp, hH, rel, r, ⟨hw, hj, h⟩, q⟩ => by
    subst hH
    obtain ⟨u, h1, h2⟩ := rel.sl i _ hw
    cases h2 with
    | @well a ha =>
      cases y with
      | int n =>
        cases r
        obtain ⟨hn, h⟩ := h
        obtain ⟨o, e, a0, b0, c0, p0, q0, r0, rfl⟩ := rel.ok.wl a ha
        have key : ∃ m o', ixN 3 j = some m ∧ [V.int a0, .int b0, .int c0].set m (.int n) = o' ∧ WellP (.lst o') ∧ o'.length = 3 := by
          have hj : j = 0 ∨ j = 1 ∨ j = 2 := by omega
          rcases hj with rfl | rfl | rfl
          · exact ⟨0, _, rfl, rfl, ⟨n, b0, c0, hn, q0, r0, rfl⟩, rfl⟩
          · exact ⟨1, _, rfl, rfl, ⟨a0, n, c0, p0, hn, r0, rfl⟩, rfl⟩
          · exact ⟨2, _, rfl, rfl, ⟨a0, b0, n, p0, q0, hn, rfl⟩, rfl⟩
        obtain ⟨m, o', k1, k2, k3, k4⟩ := key
        have hs : Sm (.lst o') := by show o'.length ≤ sizeLine; rw [k4]; decide
        obtain ⟨rel2, s2⟩ := rel.writeW ha hs k3
        refine ⟨_, h1, a, _, j, m, rfl, rfl, e, k1, ?_⟩
        rw [k2]
        exact q _ _ (d.up a (.lst o')) h s2 rel2 (OffEq.refl _ _)
      | _ => exact h.elim
/-! ### divmod -/
def pDivmod : P2 := fun x y Q => match x, y with
  | .int i, .int j => (0 < j ∧ j.natAbs.log2 < 9000) ∧ Q (.v (.tup [.int (i / j), .int (i % j)]))
  | _, _ => False
theorem cr_divmodP : CallR X (.builtin "divmod") (rPrim G (lift2 pDivmod)) := by
  intro pins s σ H vs us Q I rv ⟨d, xs, Qp, hH, ok, rs, hp, q⟩
  subst hH
  obtain ⟨x, y, px, py, rfl, rfl, r1, r2, h⟩ := two_inv' rs hp
  cases px with
  | int i =>
    cases py with
    | int j =>
      cases r1.int
      cases r2.int
      exact call_divmodW pins s σ d.H _ us Q I rv ⟨i, j, rfl, ⟨h.1.1, PyProof.noPylong_of_log2 h.1.2⟩, fun p hp => q _ _ _ h.2 (.tup hp (by show 2 ≤ sizeLine; decide) (.cons (.int _) (.cons (.int _) .nil)))⟩
    | _ => exact (show False from h).elim
  | _ => exact (show False from h).elim
theorem t_divmod (c : CT X P w base G k N sc sf) {p pos : Pos} {e : Expr} {es : List Expr} {ops : List Opd} (hm : G.mg "divmod" = none) (h : glB sc "divmod" = true) (ha : PA X (e :: es) (opsTA G ops)) (hs : (e :: es).any isStar = false) : SO X G (.Call (.Name "divmod" p) (e :: es) [] pos) (oPrim (lift2 pDivmod) ops) := t_B c cr_divmodP hm h boot_divmod ha hs (by decide)
/-! ### a def that makes a well -/
def wellOf (F : FW) : FW := fun xs Q => F xs fun tv => ∃ a b c : Int, 0 ≤ a ∧ 0 ≤ b ∧ 0 ≤ c ∧ tv = .own (.lst [.int a, .int b, .int c]) ∧ Q (.v .well)
theorem spOf_well {n : Nat} {F : FW} {vs : List V} {H : Hp} {Q : VK} {E : XK} (h : spOf G n (wellOf F) vs H Q E) : spOf G n F vs H Q E := by
  obtain ⟨d, xs, Qp, hA, hH, ok, r, hl, hF, q⟩ := h
  refine ⟨d, xs, _, hA, hH, ok, r, hl, hF, fun tv v d' ⟨a, b, c, ha, hb, hc, e, hq⟩ s hA' ok' rt => ?_⟩
  subst e
  cases rt with
  | @own x p o hp hn e rc =>
    cases rc with
    | @lst ws ys rs =>
      cases rs with
      | cons r1 rs =>
        cases rs with
        | cons r2 rs =>
          cases rs with
          | cons r3 rs =>
            cases rs
            cases r1
            cases r2
            cases r3
            let d2 : Wd := { d' with W := fun b => d'.W b ∨ b = p }
            have ok2 : d2.Ok G := by
              refine ⟨fun b z y => ?_, fun b z y => ?_, ok'.dOA, ok'.inj, fun b z => ?_, fun b z => ?_, ok'.sm⟩
              · rcases z with z | z
                · exact ok'.dWO b z y
                · subst z; exact hn (.inr (.inl y))
              · rcases z with z | z
                · exact ok'.dWA b z y
                · subst z; exact hn (.inr (.inr y))
              · rcases z with (z | z) | z | z
                · exact ok'.al b (.inl z)
                · subst z; show d'.H b ≠ none; rw [e]; simp
                · exact ok'.al b (.inr (.inl z))
                · exact ok'.al b (.inr (.inr z))
              · rcases z with z | z
                · exact ok'.wl b z
                · subst z; exact ⟨_, e, a, _, _, ha, hb, hc, rfl⟩
            have s2 : Stp d d2 := ⟨s.O, s.keep, s.al, fun b z => .inl (s.w1 b z), fun b z => z.elim (s.w2 b) fun z => .inr (by rw [z]; exact hp), s.a2⟩
            exact q _ _ d2 hq s2 hA' ok2 (.v (.well (.inr rfl)))
theorem FnG.well {x : Str} {n : Nat} {F : FW} (f : FnG P w base G k x n F) : FnG P w base G k x n (wellOf F) := by
  obtain ⟨a, fd, ps, FO, h1, h2, h3⟩ := f.ex
  exact ⟨a, fd, ps, FO.imp fun _ _ _ _ h => spOf_well h, h1, h2, h3⟩
/-- a def's promise told more simply -/
theorem spOf_mono {n : Nat} {F F' : FW} (hF : ∀ xs Q, F' xs Q → F xs Q) {vs : List V} {H : Hp} {Q : VK} {E : XK} (h : spOf G n F' vs H Q E) : spOf G n F vs H Q E := by
  obtain ⟨d, xs, Qp, hA, hH, ok, r, hl, h, q⟩ := h
  exact ⟨d, xs, Qp, hA, hH, ok, r, hl, hF xs Qp h, q⟩
theorem FnG.imp {x : Str} {n : Nat} {F F' : FW} (f : FnG P w base G k x n F) (hF : ∀ xs Q, F' xs Q → F xs Q) : FnG P w base G k x n F' := by
  obtain ⟨a, fd, ps, FO, h1, h2, h3⟩ := f.ex
  exact ⟨a, fd, ps, FO.imp fun _ _ _ _ h => spOf_mono hF h, h1, h2, h3⟩
theorem FnK.imp {x : Str} {n : Nat} {ks : List Str} {pm : List Nat} {F F' : FW} (f : FnK P w base G k x ks pm n F) (hF : ∀ xs Q, F' xs Q → F xs Q) : FnK P w base G k x ks pm n F' := by
  obtain ⟨a, fd, ps, FO, h1, h2, h3⟩ := f.ex
  exact ⟨a, fd, ps, FO.imp fun _ _ _ _ h => spOf_mono hF h, h1, h2, h3⟩
theorem FnG.up {x : Str} {n j : Nat} {F : FW} (f : FnG P w base G j x n F) (h : j ≤ k) : FnG P w base G k x n F := by
  obtain ⟨a, fd, ps, FO, h1, h2, h3⟩ := f.ex
  exact ⟨a, fd, ps, FO.mono h, h1, h2, h3⟩
def oNotT (m : OW) : OW := fun env Q => m env fun tv e => truP tv.pv fun b => Q (.v (.bl (!b))) e
theorem t_notT (c : CT X P w base G k N sc sf) {a : Expr} {m : OW} {pos : Pos} (ha : SO X G a m) : SO X G (.UnaryOp .Not a pos) (oNotT m) := so_notT c.cx ha
end
end IL

/-! IL17: more for printed proofs. -/
namespace IL
open PySem PySem.Spec PyProof.Rows L2
section
variable {X : Cx} {P : Program} {w : World} {base : Heap} {G : Gv} {k : Nat} {N : List Str} {sc sf : Scope}
/-- a comprehension into a name that a block uses -/
theorem t_setC (c : CT X P w base G k N sc sf) {i : Nat} {x : Str} {e : Expr} {m : OW} {pos pos' : Pos} (h : tgB N sc sf i x = true) (he : SO X G e m) (hsw : ∀ env : PySem.Env, swapsWith e (some (.Name x pos')) pos.line { env with scope := sc } = pure false) : SS X G (.Assign [.Name x pos'] e pos) (sSet i m) :=
  let ⟨h1, h2, h3⟩ := tgB_ok c h
  ss_set c.cx h1 h2 he (env_all (p := fun env => swapsWith _ _ _ env = pure false) X.env c.cc.sc hsw) h3
end
/-- a def of which nothing is promised -/
theorem t_def0 {P : Program} {w : World} {G : Gv} {base : Heap} {x qual : Str} {pa : Arguments} {body : List Stmt} {sc : Scope} {f : Addr} {ps : List Str} {k n : Nat} (F : ∃ fd, FunD G.K x qual pa body sc [] [] f fd) (hm : G.mg x = some (.ref f))
    (hbd : ∀ (kV doc pm : Value) (an : Option Addr) (cdv ct : Value) (us : List Value), us.length = ps.length → bindArgs (PySem.W.fnOf x qual pa body sc .none kV doc pm an cdv ct) ⟨us, []⟩ = pure (ps.zip us)) : FnG P w base G k x n (fun _ _ => False) := by
  obtain ⟨fd, F⟩ := F
  refine ⟨f, fd, ps, ⟨fun vs H Q E h => ?_, fun A outer s H args us vs Q E hr he hb hv h => ?_⟩, hm, F.kp, F.bindsN hbd⟩
  · obtain ⟨d, xs, Qp, _, _, _, _, _, hF, _⟩ := h
    exact hF.elim
  · obtain ⟨d, xs, Qp, _, _, _, _, _, hF, _⟩ := h
    exact hF.elim
/-! ### the law's call -/
theorem law_run {G : Gv} {H : Hp} {a : Addr} {ns : List Int} {F : FW} {E : XK} (hO : Only H) (hS : SqL G.K H a (ns.map V.int)) (h : F [.scr ns] fun tv => tv = .v (.bl true)) : spOf G 1 F [.ref a] H (fun v _ => v = .bl true) E := by
  let d : Wd := { W := fun _ => False, O := fun _ => False, A := [], H := H }
  have hD : ∀ b, ¬ d.D b := fun b z => by
    rcases z with z | z | z
    · exact z
    · exact z
    · exact absurd z List.not_mem_nil
  have hR : d.R = H := by
    funext b
    unfold Wd.R msk
    rw [if_neg (hD b)]
  refine ⟨d, [.scr ns], _, rfl, rfl, ⟨fun _ z => z.elim, fun _ z => z.elim, fun _ z => z.elim, (fun i j b e => by cases i <;> cases e), fun b z => absurd z (hD b), fun _ z => z.elim, fun b o e => ?_⟩, .cons (.scr (by rw [hR]; exact hS)) .nil, rfl, h, fun tv v d' e s hA ok r => ?_⟩
  · rcases hO b with z | ⟨o', xs, z⟩
    · have e : H b = some o := e
      rw [z] at e; cases e
    · have e : H b = some o := e
      rw [z] at e; cases e
      exact True.intro
  · subst e
    cases r with
    | v r => cases r; rfl
end IL

/-! IL18: plain rules about the wps. -/
namespace IL
open PySem PySem.Spec PyProof.Rows L2

theorem wComp_map {vs : List Nat} {g : GW} {t : TW} {m : OW} {env : Env} {Q : List PV → Env → Prop} (f : PV → PV) : ∀ {xs acc : List PV},
    (∀ x ∈ xs, ∀ (K : List PV → Env → Prop) acc, K (acc ++ [f x]) env → g x (wipeE env vs) fun e1 => t e1 fun b e2 => if b = true then m e2 fun tv e3 => K (acc ++ [tv.pv]) (restE env e3 vs) else K acc (restE env e2 vs)) →
    Q (acc ++ xs.map f) env → wComp vs g t m xs acc env Q
  | [], acc, _, q => by simpa [wComp] using q
  | x :: xs, acc, h, q => h x List.mem_cons_self (fun acc' e => wComp vs g t m xs acc' e Q) acc (wComp_map f (fun y hy => h y (List.mem_cons_of_mem _ hy)) (by simpa using q))
/-- .. with tests: what each gives -/
theorem wComp_fm {vs : List Nat} {g : GW} {t : TW} {m : OW} {env : Env} {Q : List PV → Env → Prop} (f : PV → List PV) : ∀ {xs acc : List PV},
    (∀ x ∈ xs, ∀ (K : List PV → Env → Prop) acc, K (acc ++ f x) env → g x (wipeE env vs) fun e1 => t e1 fun b e2 => if b = true then m e2 fun tv e3 => K (acc ++ [tv.pv]) (restE env e3 vs) else K acc (restE env e2 vs)) →
    Q (acc ++ xs.flatMap f) env → wComp vs g t m xs acc env Q
  | [], acc, _, q => by simpa [wComp] using q
  | x :: xs, acc, h, q => h x List.mem_cons_self (fun acc' e => wComp vs g t m xs acc' e Q) acc (wComp_fm f (fun y hy => h y (List.mem_cons_of_mem _ hy)) (by simpa using q))
/-- .. by an invariant (what is drawn may differ) -/
theorem wComp_inv {vs : List Nat} {g : GW} {t : TW} {m : OW} {env : Env} {Q : List PV → Env → Prop} (I : List PV → List PV → Prop) (hn : ∀ acc, I [] acc → Q acc env) : ∀ {xs acc : List PV}, I xs acc →
    (∀ x xs acc, I (x :: xs) acc → ∀ (K : List PV → Env → Prop), (∀ acc', I xs acc' → K acc' env) → g x (wipeE env vs) fun e1 => t e1 fun b e2 => if b = true then m e2 fun tv e3 => K (acc ++ [tv.pv]) (restE env e3 vs) else K acc (restE env e2 vs)) →
    wComp vs g t m xs acc env Q
  | [], acc, i, h => hn acc i
  | x :: xs, acc, i, h => h x xs acc i (fun acc' e => wComp vs g t m xs acc' e Q) fun acc' i' => wComp_inv I hn i' h
theorem wComp2_fm {vs vs1 : List Nat} {g : GW} {t : TW} {w1 : IW} {g1 : GW} {t1 : TW} {m : OW} {env : Env} {Q : List PV → Env → Prop} (f : PV → List PV) : ∀ {xs acc : List PV}, (acc.length + (xs.flatMap f).length ≤ sizeLine) →
    (∀ x ∈ xs, ∀ (K : List PV → Env → Prop) (acc : List PV), acc.length + (f x).length ≤ sizeLine → K (acc ++ f x) env → g x (wipeE env vs) fun e1 => t e1 fun b e2 => if b = true then w1 e2 fun ys e3 => acc.length + ys.length ≤ sizeLine ∧ noOwn e3 vs1 = true ∧ wComp vs1 g1 t1 m ys acc e3 fun acc' e4 => K acc' (restE env e4 vs) else K acc (restE env e2 vs)) →
    Q (acc ++ xs.flatMap f) env → wComp2 vs vs1 g t w1 g1 t1 m xs acc env Q
  | [], acc, _, _, q => by simpa [wComp2] using q
  | x :: xs, acc, hl, h, q => by
    rw [List.flatMap_cons, List.length_append] at hl
    exact h x List.mem_cons_self (fun acc' e => wComp2 vs vs1 g t w1 g1 t1 m xs acc' e Q) acc (by omega) (wComp2_fm f (by rw [List.length_append]; omega) (fun y hy => h y (List.mem_cons_of_mem _ hy)) (by simpa using q))
theorem wFor_inv {g : GW} {b : SW} {P : EndsW} (I : List PV → Env → Prop) (hn : ∀ e, I [] e → P.nx e) : ∀ {xs : List PV} {e : Env}, I xs e →
    (∀ x xs e, I (x :: xs) e → ∀ K : Env → Prop, (∀ e', I xs e' → K e') → g x e fun e2 => b { nx := K, rt := P.rt, bk := P.nx, ct := K } e2) → wFor g b xs P e
  | [], e, i, h => hn e i
  | x :: xs, e, i, h => h x xs e i (fun e' => wFor g b xs P e') fun e' i' => wFor_inv I hn i' h
theorem blsOf_map : ∀ bs : List Bool, blsOf (bs.map .bl) = some bs
  | [] => rfl
  | b :: bs => by
    show (blsOf (bs.map .bl)).map (b :: ·) = _
    rw [blsOf_map bs]
    rfl
theorem pAll_true {xs : List PV} {Q : TV → Prop} (h : ∀ x ∈ xs, x = .bl true) (q : Q (.v (.bl true))) : pAll (.lst xs) Q := by
  have e : xs = (xs.map fun _ => true).map .bl := by
    rw [List.map_map]
    conv => lhs; rw [← List.map_id xs]
    exact List.map_congr_left fun x hx => h x hx
  show match blsOf xs with | some bs => Q (.v (.bl (bs.all id))) | none => False
  rw [e, blsOf_map]
  show Q (.v (.bl ((xs.map fun _ => true).all id)))
  have : ((xs.map fun _ => true).all id) = true := by simp
  rw [this]
  exact q
theorem pAny_false {xs : List PV} {Q : TV → Prop} (h : ∀ x ∈ xs, x = .bl false) (q : Q (.v (.bl false))) : pAny (.lst xs) Q := by
  have e : xs = (xs.map fun _ => false).map .bl := by
    rw [List.map_map]
    conv => lhs; rw [← List.map_id xs]
    exact List.map_congr_left fun x hx => h x hx
  show match blsOf xs with | some bs => Q (.v (.bl (bs.any id))) | none => False
  rw [e, blsOf_map]
  show Q (.v (.bl ((xs.map fun _ => false).any id)))
  have : ((xs.map fun _ => false).any id) = false := by simp
  rw [this]
  exact q
theorem intsOf_map : ∀ ns : List Int, intsOf (ns.map .int) = some ns
  | [] => rfl
  | n :: ns => by
    show (intsOf (ns.map .int)).map (n :: ·) = _
    rw [intsOf_map ns]
    rfl
theorem strsOf_map : ∀ zs : List Str, strsOf (zs.map .str) = some zs
  | [] => rfl
  | n :: ns => by
    show (strsOf (ns.map .str)).map (n :: ·) = _
    rw [strsOf_map ns]
    rfl
theorem atI_nat {α : Type} {xs : List α} {j : Nat} (h : j < xs.length) : atI xs (j : Int) = some xs[j] := by
  unfold atI ixN
  rw [if_pos (Int.natCast_nonneg j), if_pos (by omega)]
  show xs[((j : Int)).toNat]? = _
  rw [Int.toNat_natCast, List.getElem?_eq_getElem h]
theorem atI_at {α : Type} {xs : List α} {j : Nat} {i : Int} {x : α} (e : i = (j : Int)) (h : xs[j]? = some x) : atI xs i = some x := by
  obtain ⟨h1, h2⟩ := List.getElem?_eq_some_iff.mp h
  rw [e, atI_nat h1, h2]
theorem ixN_nat {n j : Nat} (h : j < n) : ixN n (j : Int) = some j := by
  unfold ixN
  rw [if_pos (Int.natCast_nonneg j), if_pos (by omega), Int.toNat_natCast]
theorem rangePV_mem {lo : Int} {n : Nat} {x : PV} (h : x ∈ rangePV lo n) : ∃ i : Nat, i < n ∧ x = .int (lo + (i : Nat)) := by
  obtain ⟨i, hi, rfl⟩ := List.mem_map.mp h
  exact ⟨i, List.mem_range.mp hi, rfl⟩
theorem rangePV_len {lo : Int} {n : Nat} : (rangePV lo n).length = n := by simp [rangePV]
theorem rangePV_zero (lo : Int) : rangePV lo 0 = [] := rfl
theorem rangePV_succ (lo : Int) (n : Nat) : rangePV lo (n + 1) = .int lo :: rangePV (lo + 1) n := by
  unfold rangePV
  rw [List.range_succ_eq_map, List.map_cons, List.map_map]
  congr 1
  · simp
  · apply List.map_congr_left
    intro i _
    show PV.int _ = PV.int _
    congr 1
    show lo + ((i + 1 : Nat) : Int) = lo + 1 + (i : Int)
    omega
theorem size_le {n : Nat} (h : n ≤ 100000) : n ≤ sizeLine := by
  have := sizeLine_eq
  omega
theorem datL_map {α : Type} {f : α → PV} {g : α → PyData} : ∀ {xs : List α}, (∀ x ∈ xs, dat (f x) = some (g x)) → datL (xs.map f) = some (xs.map g)
  | [], _ => by simp [datL]
  | x :: xs, h => by
    rw [List.map_cons]
    simp only [datL]
    rw [h x List.mem_cons_self, datL_map fun y hy => h y (List.mem_cons_of_mem _ hy)]
    rfl
theorem eqPV_self {x : PV} (h : okD x = true) : eqPV x x = true := by
  obtain ⟨d, h1, h2⟩ := okD_some h
  unfold eqPV
  rw [h1]
  exact PySem.SeqAt.eqv_refl d (SeqAt.canLay_of_shaped h2)
theorem pEq_self {n : Bool} {x : PV} {Q : TV → Prop} (h : okD x = true) (q : Q (.v (.bl (!n)))) : pEq n x x Q := by
  refine ⟨h, h, ?_⟩
  rw [eqPV_self h]
  cases n <;> exact q
theorem okD_int (i : Int) : okD (.int i) = true := rfl
theorem eqPV_int (i j : Int) : eqPV (.int i) (.int j) = (i == j) := by
  unfold eqPV
  simp [dat, PyData.eqv]
theorem pEq_int {n : Bool} {i j : Int} {Q : TV → Prop} (q : Q (.v (.bl ((i == j) != n)))) : pEq n (.int i) (.int j) Q := ⟨rfl, rfl, by rw [eqPV_int]; exact q⟩
theorem pEq_str {n : Bool} {x y : Str} {Q : TV → Prop} (hx : PyData.strOk x = true) (hy : PyData.strOk y = true) (q : Q (.v (.bl ((x == y) != n)))) : pEq n (.str x) (.str y) Q := by
  refine ⟨?_, ?_, ?_⟩
  · simp [okD, dat, SeqAt.shaped, PyData.canLay0, PyData.depth, hx]
  · simp [okD, dat, SeqAt.shaped, PyData.canLay0, PyData.depth, hy]
  · have : eqPV (.str x) (.str y) = (x == y) := by unfold eqPV; simp [dat, PyData.eqv]
    rw [this]
    exact q
end IL

/-! IL19: texts of numbers, joined and split. -/
namespace IL
open PySem PySem.Spec PyProof.Rows L2 TL

def num (n : Nat) : Str := Str.ofString (toString ((n : Nat) : Int))
theorem tlJ (y : Str) (ps : List Str) : tl (Txt.join y ps) = joinL (tl y) (ps.map tl) := by rw [join_eq, tl_join]
theorem joinL_nil : ∀ ps : List (List Nat), joinL [] ps = ps.flatten
  | [] => rfl
  | [p] => by simp [joinL]
  | p :: q :: r => by
    show p ++ ([] ++ joinL [] (q :: r)) = _
    rw [joinL_nil (q :: r)]
    rfl
theorem joinL_end (S : List Nat) : ∀ {ps : List (List Nat)}, ps ≠ [] → joinL S ps ++ S = (ps.map (· ++ S)).flatten
  | [], h => absurd rfl h
  | [p], _ => by simp [joinL]
  | p :: q :: r, _ => by
    have ih := joinL_end S (ps := q :: r) (by simp)
    show (p ++ (S ++ joinL S (q :: r))) ++ S = _
    rw [List.append_assoc, List.append_assoc, ih]
    simp
theorem joinL_last (S : List Nat) : ∀ {ps : List (List Nat)}, ps ≠ [] → joinL S (ps ++ [[]]) = joinL S ps ++ S
  | [], h => absurd rfl h
  | [p], _ => by simp [joinL]
  | p :: q :: r, _ => by
    have ih := joinL_last S (ps := q :: r) (by simp)
    show p ++ (S ++ joinL S ((q :: r) ++ [[]])) = (p ++ (S ++ joinL S (q :: r))) ++ S
    rw [ih]
    simp [List.append_assoc]
theorem tl_num' (n : Nat) : tl (num n) = numL n := tl_num n
theorem num_inj {m n : Nat} (h : num m = num n) : m = n := numL_inj (by rw [← tl_num', ← tl_num', h])
theorem num_ok {n : Nat} : PyData.strOk (num n) = true := by
  unfold PyData.strOk
  rw [← Array.all_toList]
  have : (num n).cps.toList = numL n := tl_num' n
  rw [this, List.all_eq_true]
  intro c hc
  have := numL_digits n c hc
  simp
  omega
theorem strOk_tl {x : Str} (h : ∀ c ∈ tl x, c < 0x110000) : PyData.strOk x = true := by
  unfold PyData.strOk
  rw [← Array.all_toList, List.all_eq_true]
  intro c hc
  simpa using h c hc
theorem num_read {n : Nat} (h : n < 10 ^ 100) : (num n).length ≤ 640 ∧ PySem.intText? (num n) = some (n : Int) := by
  have hl : (num n).length ≤ 100 := by rw [len_tl, tl_num']; exact numL_len (by decide) h
  refine ⟨by omega, ?_⟩
  exact int_num (by have := numL_len (by decide) h; omega)
theorem split1 {y : Str} {s : Nat} (ey : tl y = [s]) (hk : y.cps.all (· < 256) = true) {ps : List Str} (hne : ps ≠ []) (hp : ∀ p ∈ ps, s ∉ tl p) : Txt.split (Txt.join y ps) y = ps := split_join ey hk hne hp
theorem num_log {n : Nat} (h : n < 10 ^ 100) : ((n : Int)).natAbs.log2 < 1920 := by
  rw [Int.natAbs_natCast]
  by_cases hn : n = 0
  · subst hn; decide
  · rw [Nat.log2_lt hn]
    exact Nat.lt_trans h (by decide +kernel)
theorem pStr_num {n : Nat} (h : n < 10 ^ 100) {Q : TV → Prop} (q : Q (.v (.str (num n)))) : pStr (.int n) Q := ⟨num_log h, q⟩
theorem pInt_num {n : Nat} (h : n < 10 ^ 100) {Q : TV → Prop} (q : Q (.v (.int n))) : pInt (.str (num n)) Q := by
  obtain ⟨h1, h2⟩ := num_read h
  refine ⟨h1, ?_⟩
  rw [h2]
  exact q
end IL

/-! IL20: rules by which a wp is told plainly. -/
namespace IL
open PySem PySem.Spec PyProof.Rows L2
section
variable {Q : TV → Prop} {P : EndsW} {K : Bool → Env → Prop} {KO : TV → Env → Prop} {env : Env} {x y : PV} {i j : Int} {xs ys : List PV}
theorem e_pv : (TV.v x).pv = x := rfl
theorem e_po : (TV.own x).pv = x := rfl
theorem e_rl {rs : List Opr} {e : Env} {z : PV} : rdAll e (.inl z :: rs) = (rdAll e rs).map (z :: ·) := by
  show (match some z, rdAll e rs with | some x, some xs => some (x :: xs) | _, _ => none) = _
  cases rdAll e rs <;> rfl
theorem e_tb {b : Bool} {T : Bool → Prop} : truP (.bl b) T = T b := rfl
theorem e_ti {T : Bool → Prop} : truP (.int i) T = T (i != 0) := rfl
theorem e_tn {T : Bool → Prop} : truP .non T = T false := rfl
theorem e_tl {T : Bool → Prop} : truP (.lst xs) T = T (!xs.isEmpty) := rfl
theorem e_tt {T : Bool → Prop} : truP (.tup xs) T = T (!xs.isEmpty) := rfl
theorem e_add : pAdd (.int i) (.int j) Q = Q (.v (.int (i + j))) := rfl
theorem e_addS {a b : Str} : pAdd (.str a) (.str b) Q = (a.length + b.length ≤ sizeLine ∧ Q (.v (.str (a ++ b)))) := rfl
theorem e_addL : pAdd (.lst xs) (.lst ys) Q = (xs.length + ys.length ≤ sizeLine ∧ Q (.own (.lst (xs ++ ys)))) := rfl
theorem e_addT : pAdd (.tup xs) (.tup ys) Q = (xs.length + ys.length ≤ sizeLine ∧ Q (.v (.tup (xs ++ ys)))) := rfl
theorem e_sub : pSub (.int i) (.int j) Q = Q (.v (.int (i - j))) := rfl
theorem e_mul : pMul (.int i) (.int j) Q = ((CMulW i j ∨ CMul i j) ∧ Q (.v (.int (i * j)))) := rfl
theorem e_mod : pMod (.int i) (.int j) Q = (0 < j ∧ Q (.v (.int (i % j)))) := rfl
theorem e_fdiv : pFdiv (.int i) (.int j) Q = (CDivW i j ∧ Q (.v (.int (i / j)))) := rfl
theorem e_pow : pPow (.int i) (.int j) Q = (CPow i j ∧ Q (.v (.int (i ^ j.toNat)))) := rfl
theorem e_neg : pNeg (.int i) Q = Q (.v (.int (-i))) := rfl
theorem e_lt : pLt (.int i) (.int j) Q = Q (.v (.bl (decide (i < j)))) := rfl
theorem e_le : pLe (.int i) (.int j) Q = Q (.v (.bl (decide (i ≤ j)))) := rfl
theorem e_gt : pGt (.int i) (.int j) Q = Q (.v (.bl (decide (j < i)))) := rfl
theorem e_ge : pGe (.int i) (.int j) Q = Q (.v (.bl (decide (j ≤ i)))) := rfl
theorem e_eqI {n : Bool} : pEq n (.int i) (.int j) Q = Q (.v (.bl ((i == j) != n))) := by
  unfold pEq
  rw [eqPV_int]
  exact propext ⟨fun h => h.2.2, fun h => ⟨rfl, rfl, h⟩⟩
theorem e_lenT : pLen (.tup xs) Q = Q (.v (.int xs.length)) := rfl
theorem e_lenL : pLen (.lst xs) Q = Q (.v (.int xs.length)) := rfl
theorem e_lenS {a : Str} : pLen (.str a) Q = (a.length ≤ sizeLine ∧ Q (.v (.int a.length))) := rfl
theorem e_lenR {ns : List Int} : pLen (.scr ns) Q = Q (.v (.int ns.length)) := rfl
theorem e_tupL : pTuple (.lst xs) Q = Q (.v (.tup xs)) := rfl
theorem e_tupT : pTuple (.tup xs) Q = Q (.v (.tup xs)) := rfl
theorem e_intI : pInt (.int i) Q = Q (.v (.int i)) := rfl
theorem e_isiI : pIsi (.int i) (.ty "int") Q = Q (.v (.bl true)) := rfl
theorem e_isiIB : pIsi (.int i) (.ty "bool") Q = Q (.v (.bl false)) := rfl
theorem e_isiT : pIsi (.tup xs) (.ty "tuple") Q = Q (.v (.bl true)) := rfl
theorem e_isiS {a : Str} : pIsi (.str a) (.ty "str") Q = Q (.v (.bl true)) := rfl
theorem e_isN {n : Bool} : pIs n .non .non Q = Q (.v (.bl (true != n))) := rfl
theorem e_isI {n : Bool} : pIs n (.int i) .non Q = Q (.v (.bl (false != n))) := rfl
theorem e_isS {n : Bool} {a : Str} : pIs n (.str a) .non Q = Q (.v (.bl (false != n))) := rfl
theorem e_isT {n : Bool} : pIs n (.tup xs) .non Q = Q (.v (.bl (false != n))) := rfl
theorem e_sqT : seqOf (.tup xs) = some xs := rfl
theorem e_sqL : seqOf (.lst xs) = some xs := rfl
theorem e_sqS {a : Str} : seqOf (.str a) = some (strPV a) := rfl
theorem e_sl : pSl none (some 1) (.lst xs) Q = Q (.own (.lst (cutPV xs none (some 1)))) := rfl
end
end IL

namespace ILaw
open PySem PySem.Spec PyProof.Rows L2 IL
def top (i : Nat) : Stmt := PySem.Challenge.pw_eachagainst_k80_whole_texts_of_games_and.main.body.getD i (.Pass ⟨0, 0, 0, 0⟩)
structure Fx (G : Gv) : Prop where
  d_is_whole : ∃ fd, FunD G.K "is_whole" "is_whole" (defArgs (top 6)) (defBody (top 6)) (defScope (top 6)) [] [] (He.ga G.K "is_whole") fd
  g_is_whole : G.mg "is_whole" = some (.ref (He.ga G.K "is_whole"))
  d_is_between : ∃ fd, FunD G.K "is_between" "is_between" (defArgs (top 7)) (defBody (top 7)) (defScope (top 7)) [] [] (He.ga G.K "is_between") fd
  g_is_between : G.mg "is_between" = some (.ref (He.ga G.K "is_between"))
  d_is_number : ∃ fd, FunD G.K "is_number" "is_number" (defArgs (top 8)) (defBody (top 8)) (defScope (top 8)) [] [] (He.ga G.K "is_number") fd
  g_is_number : G.mg "is_number" = some (.ref (He.ga G.K "is_number"))
  d_is_tuple_of : ∃ fd, FunD G.K "is_tuple_of" "is_tuple_of" (defArgs (top 9)) (defBody (top 9)) (defScope (top 9)) [] [] (He.ga G.K "is_tuple_of") fd
  g_is_tuple_of : G.mg "is_tuple_of" = some (.ref (He.ga G.K "is_tuple_of"))
  d_are_rising : ∃ fd, FunD G.K "are_rising" "are_rising" (defArgs (top 10)) (defBody (top 10)) (defScope (top 10)) [] [] (He.ga G.K "are_rising") fd
  g_are_rising : G.mg "are_rising" = some (.ref (He.ga G.K "are_rising"))
  d_first_wrong : ∃ fd, FunD G.K "first_wrong" "first_wrong" (defArgs (top 11)) (defBody (top 11)) (defScope (top 11)) [] [] (He.ga G.K "first_wrong") fd
  g_first_wrong : G.mg "first_wrong" = some (.ref (He.ga G.K "first_wrong"))
  d_is_win : ∃ fd, FunD G.K "is_win" "is_win" (defArgs (top 16)) (defBody (top 16)) (defScope (top 16)) [] [] (He.ga G.K "is_win") fd
  g_is_win : G.mg "is_win" = some (.ref (He.ga G.K "is_win"))
  d_are_wins : ∃ fd, FunD G.K "are_wins" "are_wins" (defArgs (top 17)) (defBody (top 17)) (defScope (top 17)) [] [] (He.ga G.K "are_wins") fd
  g_are_wins : G.mg "are_wins" = some (.ref (He.ga G.K "are_wins"))
  d_are_games_by : ∃ fd, FunD G.K "are_games_by" "are_games_by" (defArgs (top 18)) (defBody (top 18)) (defScope (top 18)) [] [] (He.ga G.K "are_games_by") fd
  g_are_games_by : G.mg "are_games_by" = some (.ref (He.ga G.K "are_games_by"))
  d_players_of : ∃ fd, FunD G.K "players_of" "players_of" (defArgs (top 19)) (defBody (top 19)) (defScope (top 19)) [] [] (He.ga G.K "players_of") fd
  g_players_of : G.mg "players_of" = some (.ref (He.ga G.K "players_of"))
  d_points_by : ∃ fd, FunD G.K "points_by" "points_by" (defArgs (top 20)) (defBody (top 20)) (defScope (top 20)) [] [] (He.ga G.K "points_by") fd
  g_points_by : G.mg "points_by" = some (.ref (He.ga G.K "points_by"))
  d_check_games : ∃ fd, FunD G.K "check_games" "check_games" (defArgs (top 22)) (defBody (top 22)) (defScope (top 22)) [] [] (He.ga G.K "check_games") fd
  g_check_games : G.mg "check_games" = some (.ref (He.ga G.K "check_games"))
  d_check_numbers : ∃ fd, FunD G.K "check_numbers" "check_numbers" (defArgs (top 23)) (defBody (top 23)) (defScope (top 23)) [] [] (He.ga G.K "check_numbers") fd
  g_check_numbers : G.mg "check_numbers" = some (.ref (He.ga G.K "check_numbers"))
  d_is_figures : ∃ fd, FunD G.K "is_figures" "is_figures" (defArgs (top 30)) (defBody (top 30)) (defScope (top 30)) [] [] (He.ga G.K "is_figures") fd
  g_is_figures : G.mg "is_figures" = some (.ref (He.ga G.K "is_figures"))
  d_numbers_in : ∃ fd, FunD G.K "numbers_in" "numbers_in" (defArgs (top 31)) (defBody (top 31)) (defScope (top 31)) [] [] (He.ga G.K "numbers_in") fd
  g_numbers_in : G.mg "numbers_in" = some (.ref (He.ga G.K "numbers_in"))
  d_text_of_numbers : ∃ fd, FunD G.K "text_of_numbers" "text_of_numbers" (defArgs (top 32)) (defBody (top 32)) (defScope (top 32)) [] [] (He.ga G.K "text_of_numbers") fd
  g_text_of_numbers : G.mg "text_of_numbers" = some (.ref (He.ga G.K "text_of_numbers"))
  d_list_with_text : ∃ fd, FunD G.K "list_with_text" "list_with_text" (defArgs (top 33)) (defBody (top 33)) (defScope (top 33)) [] [] (He.ga G.K "list_with_text") fd
  g_list_with_text : G.mg "list_with_text" = some (.ref (He.ga G.K "list_with_text"))
  d_text_of_games : ∃ fd, FunD G.K "text_of_games" "text_of_games" (defArgs (top 34)) (defBody (top 34)) (defScope (top 34)) [] [] (He.ga G.K "text_of_games") fd
  g_text_of_games : G.mg "text_of_games" = some (.ref (He.ga G.K "text_of_games"))
  d_win_in : ∃ fd, FunD G.K "win_in" "win_in" (defArgs (top 35)) (defBody (top 35)) (defScope (top 35)) [] [] (He.ga G.K "win_in") fd
  g_win_in : G.mg "win_in" = some (.ref (He.ga G.K "win_in"))
  d_many_in : ∃ fd, FunD G.K "many_in" "many_in" (defArgs (top 36)) (defBody (top 36)) (defScope (top 36)) [] [] (He.ga G.K "many_in") fd
  g_many_in : G.mg "many_in" = some (.ref (He.ga G.K "many_in"))
  d_games_with_text : ∃ fd, FunD G.K "games_with_text" "games_with_text" (defArgs (top 37)) (defBody (top 37)) (defScope (top 37)) [] [] (He.ga G.K "games_with_text") fd
  g_games_with_text : G.mg "games_with_text" = some (.ref (He.ga G.K "games_with_text"))
  d_games_text : ∃ fd, FunD G.K "games_text" "games_text" (defArgs (top 39)) (defBody (top 39)) (defScope (top 39)) [] [] (He.ga G.K "games_text") fd
  g_games_text : G.mg "games_text" = some (.ref (He.ga G.K "games_text"))
  d_read_games : ∃ fd, FunD G.K "read_games" "read_games" (defArgs (top 40)) (defBody (top 40)) (defScope (top 40)) [] [] (He.ga G.K "read_games") fd
  g_read_games : G.mg "read_games" = some (.ref (He.ga G.K "read_games"))
  d_list_text : ∃ fd, FunD G.K "list_text" "list_text" (defArgs (top 41)) (defBody (top 41)) (defScope (top 41)) [] [] (He.ga G.K "list_text") fd
  g_list_text : G.mg "list_text" = some (.ref (He.ga G.K "list_text"))
  d_read_list : ∃ fd, FunD G.K "read_list" "read_list" (defArgs (top 42)) (defBody (top 42)) (defScope (top 42)) [] [] (He.ga G.K "read_list") fd
  g_read_list : G.mg "read_list" = some (.ref (He.ga G.K "read_list"))
  d_points : ∃ fd, FunD G.K "points" "points" (defArgs (top 44)) (defBody (top 44)) (defScope (top 44)) [] [] (He.ga G.K "points") fd
  g_points : G.mg "points" = some (.ref (He.ga G.K "points"))
  d__law_well : ∃ fd, FunD G.K "_law_well" "_law_well" (defArgs (top 46)) (defBody (top 46)) (defScope (top 46)) [] [] (He.ga G.K "_law_well") fd
  g__law_well : G.mg "_law_well" = some (.ref (He.ga G.K "_law_well"))
  d__law_take : ∃ fd, FunD G.K "_law_take" "_law_take" (defArgs (top 47)) (defBody (top 47)) (defScope (top 47)) [] [] (He.ga G.K "_law_take") fd
  g__law_take : G.mg "_law_take" = some (.ref (He.ga G.K "_law_take"))
  d__law_same : ∃ fd, FunD G.K "_law_same" "_law_same" (defArgs (top 48)) (defBody (top 48)) (defScope (top 48)) [] [] (He.ga G.K "_law_same") fd
  g__law_same : G.mg "_law_same" = some (.ref (He.ga G.K "_law_same"))
  d__law_pairs : ∃ fd, FunD G.K "_law_pairs" "_law_pairs" (defArgs (top 49)) (defBody (top 49)) (defScope (top 49)) [] [] (He.ga G.K "_law_pairs") fd
  g__law_pairs : G.mg "_law_pairs" = some (.ref (He.ga G.K "_law_pairs"))
  d__law_games : ∃ fd, FunD G.K "_law_games" "_law_games" (defArgs (top 50)) (defBody (top 50)) (defScope (top 50)) [] [] (He.ga G.K "_law_games") fd
  g__law_games : G.mg "_law_games" = some (.ref (He.ga G.K "_law_games"))
  d__law_results : ∃ fd, FunD G.K "_law_results" "_law_results" (defArgs (top 51)) (defBody (top 51)) (defScope (top 51)) [] [] (He.ga G.K "_law_results") fd
  g__law_results : G.mg "_law_results" = some (.ref (He.ga G.K "_law_results"))
  d__law_points : ∃ fd, FunD G.K "_law_points" "_law_points" (defArgs (top 52)) (defBody (top 52)) (defScope (top 52)) [] [] (He.ga G.K "_law_points") fd
  g__law_points : G.mg "_law_points" = some (.ref (He.ga G.K "_law_points"))
  d__law_is_up_to : ∃ fd, FunD G.K "_law_is_up_to" "_law_is_up_to" (defArgs (top 53)) (defBody (top 53)) (defScope (top 53)) [] [] (He.ga G.K "_law_is_up_to") fd
  g__law_is_up_to : G.mg "_law_is_up_to" = some (.ref (He.ga G.K "_law_is_up_to"))
  d__law_are_games : ∃ fd, FunD G.K "_law_are_games" "_law_are_games" (defArgs (top 54)) (defBody (top 54)) (defScope (top 54)) [] [] (He.ga G.K "_law_are_games") fd
  g__law_are_games : G.mg "_law_are_games" = some (.ref (He.ga G.K "_law_are_games"))
  d__law_figures : ∃ fd, FunD G.K "_law_figures" "_law_figures" (defArgs (top 55)) (defBody (top 55)) (defScope (top 55)) [] [] (He.ga G.K "_law_figures") fd
  g__law_figures : G.mg "_law_figures" = some (.ref (He.ga G.K "_law_figures"))
  d__law_read_games : ∃ fd, FunD G.K "_law_read_games" "_law_read_games" (defArgs (top 56)) (defBody (top 56)) (defScope (top 56)) [] [] (He.ga G.K "_law_read_games") fd
  g__law_read_games : G.mg "_law_read_games" = some (.ref (He.ga G.K "_law_read_games"))
  d__law_games_text : ∃ fd, FunD G.K "_law_games_text" "_law_games_text" (defArgs (top 57)) (defBody (top 57)) (defScope (top 57)) [] [] (He.ga G.K "_law_games_text") fd
  g__law_games_text : G.mg "_law_games_text" = some (.ref (He.ga G.K "_law_games_text"))
  d__law_list_text : ∃ fd, FunD G.K "_law_list_text" "_law_list_text" (defArgs (top 58)) (defBody (top 58)) (defScope (top 58)) [] [] (He.ga G.K "_law_list_text") fd
  g__law_list_text : G.mg "_law_list_text" = some (.ref (He.ga G.K "_law_list_text"))
  d__law_is_told : ∃ fd, FunD G.K "_law_is_told" "_law_is_told" (defArgs (top 59)) (defBody (top 59)) (defScope (top 59)) [] [] (He.ga G.K "_law_is_told") fd
  g__law_is_told : G.mg "_law_is_told" = some (.ref (He.ga G.K "_law_is_told"))
  d__law_right : ∃ fd, FunD G.K "_law_right" "_law_right" (defArgs (top 60)) (defBody (top 60)) (defScope (top 60)) [] [] (He.ga G.K "_law_right") fd
  g__law_right : G.mg "_law_right" = some (.ref (He.ga G.K "_law_right"))
  d_law : ∃ fd, FunD G.K "law" "law" (defArgs (top 61)) (defBody (top 61)) (defScope (top 61)) [] [] (He.ga G.K "law") fd
  g_law : G.mg "law" = some (.ref (He.ga G.K "law"))
  c_MOST_PLAYERS : ∃ t, G.mg "MOST_PLAYERS" = some (.int 8 t)
  c_MANY : ∃ t, G.mg "MANY" = some (.int 0 t)
  c_WINS : ∃ t, G.mg "WINS" = some (.int 1 t)
  c_FIGURES : ∃ t, G.mg "FIGURES" = some (.str ("0123456789" : Str) t)
  c_BLANK : ∃ t, G.mg "BLANK" = some (.str (" " : Str) t)
  c_END : ∃ t, G.mg "END" = some (.str ("\n" : Str) t)
  c_PLAYERS_WORD : ∃ t, G.mg "PLAYERS_WORD" = some (.str ("players" : Str) t)
  c_BEAT_WORD : ∃ t, G.mg "BEAT_WORD" = some (.str ("beat" : Str) t)
  f_abs : G.mg "abs" = none
  f_all : G.mg "all" = none
  f_any : G.mg "any" = none
  f_bool : G.mg "bool" = none
  f_dict : G.mg "dict" = none
  f_divmod : G.mg "divmod" = none
  f_enumerate : G.mg "enumerate" = none
  f_int : G.mg "int" = none
  f_isinstance : G.mg "isinstance" = none
  f_len : G.mg "len" = none
  f_list : G.mg "list" = none
  f_max : G.mg "max" = none
  f_min : G.mg "min" = none
  f_range : G.mg "range" = none
  f_sorted : G.mg "sorted" = none
  f_str : G.mg "str" = none
  f_tuple : G.mg "tuple" = none
/-! is_whole -/
def b_is_whole : SW := sSeq (sRet (oAnd (oPrim (lift2 pIsi) [.sl 0, .ex (oC (.ty "int"))]) (oNotT (oPrim (lift2 pIsi) [.sl 0, .ex (oC (.ty "bool"))])))) (sNext)
def F_is_whole : FW := fnW 1 b_is_whole
theorem bd_is_whole {P : Program} {w : World} {base : Heap} {G : Gv} (z : Fx G) (X : Cx) (c : CT X P w base G 0 [("value" : Str)] (defScope (top 6)) (defScope (top 6))) : SSs X G (defBody (top 6)) b_is_whole :=
  sss_cons (ss_ret (so_and c.cx (t_isi c z.f_isinstance (by decide +kernel) (t_ocons (t_sl c (by decide +kernel)) rfl (t_ocons (t_ex (t_ty c z.f_int (by decide +kernel) boot_int (by decide))) rfl t_onil)) rfl) (so_one (t_notT c (t_isi c z.f_isinstance (by decide +kernel) (t_ocons (t_sl c (by decide +kernel)) rfl (t_ocons (t_ex (t_ty c z.f_bool (by decide +kernel) boot_bool (by decide))) rfl t_onil)) rfl)))))
    (sss_nil)
theorem ok_is_whole {P : Program} {w : World} {base : Heap} {G : Gv} (z : Fx G) : FnG P w base G 1 "is_whole" 1 F_is_whole :=
  t_def (N := [("value" : Str)]) (ps := [("value" : Str)]) z.d_is_whole ⟨rfl, rfl, rfl, by decide +kernel, rfl, by decide +kernel, by decide +kernel⟩ z.g_is_whole (fun _ _ _ _ _ _ us hl => match us, hl with | [_], _ => rfl) fun X c => bd_is_whole z X c
/-! is_between -/
def b_is_between : SW := sSeq (sRet (oAnd (oCall 1 F_is_whole [oVar 0]) (oChain (lift2 pLe) (lift2 pLe) (.sl 1) (.sl 0) (.sl 2)))) (sNext)
def F_is_between : FW := fnW 3 b_is_between
theorem bd_is_between {P : Program} {w : World} {base : Heap} {G : Gv} (z : Fx G) (X : Cx) (c : CT X P w base G 1 [("value" : Str), ("low" : Str), ("high" : Str)] (defScope (top 7)) (defScope (top 7))) : SSs X G (defBody (top 7)) b_is_between :=
  sss_cons (ss_ret (so_and c.cx (t_call c (ok_is_whole z) (by decide) (by decide +kernel) (t_acons (t_var c (by decide +kernel)) rfl t_anil) rfl) (so_one (so_chain (or_le c.cx) (or_le c.cx) (t_sl c (by decide +kernel)) (t_sl c (by decide +kernel)) (t_sl c (by decide +kernel)) rfl))))
    (sss_nil)
theorem ok_is_between {P : Program} {w : World} {base : Heap} {G : Gv} (z : Fx G) : FnG P w base G 2 "is_between" 3 F_is_between :=
  t_def (N := [("value" : Str), ("low" : Str), ("high" : Str)]) (ps := [("value" : Str), ("low" : Str), ("high" : Str)]) z.d_is_between ⟨rfl, rfl, rfl, by decide +kernel, rfl, by decide +kernel, by decide +kernel⟩ z.g_is_between (fun _ _ _ _ _ _ us hl => match us, hl with | [_, _, _], _ => rfl) fun X c => bd_is_between z X c
/-! is_number -/
def b_is_number : SW := sSeq (sRet (oAnd (oCall 1 F_is_whole [oVar 0]) (oPrim (lift2 pGe) [.sl 0, .ex (oC (.int 0))]))) (sNext)
def F_is_number : FW := fnW 1 b_is_number
theorem bd_is_number {P : Program} {w : World} {base : Heap} {G : Gv} (z : Fx G) (X : Cx) (c : CT X P w base G 1 [("value" : Str)] (defScope (top 8)) (defScope (top 8))) : SSs X G (defBody (top 8)) b_is_number :=
  sss_cons (ss_ret (so_and c.cx (t_call c (ok_is_whole z) (by decide) (by decide +kernel) (t_acons (t_var c (by decide +kernel)) rfl t_anil) rfl) (so_one (so_cmp or_ge (t_sl c (by decide +kernel)) (t_ex (t_int)) rfl))))
    (sss_nil)
theorem ok_is_number {P : Program} {w : World} {base : Heap} {G : Gv} (z : Fx G) : FnG P w base G 2 "is_number" 1 F_is_number :=
  t_def (N := [("value" : Str)]) (ps := [("value" : Str)]) z.d_is_number ⟨rfl, rfl, rfl, by decide +kernel, rfl, by decide +kernel, by decide +kernel⟩ z.g_is_number (fun _ _ _ _ _ _ us hl => match us, hl with | [_], _ => rfl) fun X c => bd_is_number z X c
/-! is_tuple_of -/
def b_is_tuple_of : SW := sSeq (sRet (oAnd (oPrim (lift2 pIsi) [.sl 0, .ex (oC (.ty "tuple"))]) (oPrim (lift2 (pEq false)) [.ex (oPrim (lift1 pLen) [.sl 0]), .sl 1]))) (sNext)
def F_is_tuple_of : FW := fnW 2 b_is_tuple_of
theorem bd_is_tuple_of {P : Program} {w : World} {base : Heap} {G : Gv} (z : Fx G) (X : Cx) (c : CT X P w base G 0 [("value" : Str), ("many" : Str)] (defScope (top 9)) (defScope (top 9))) : SSs X G (defBody (top 9)) b_is_tuple_of :=
  sss_cons (ss_ret (so_and c.cx (t_isi c z.f_isinstance (by decide +kernel) (t_ocons (t_sl c (by decide +kernel)) rfl (t_ocons (t_ex (t_ty c z.f_tuple (by decide +kernel) boot_tuple (by decide))) rfl t_onil)) rfl) (so_one (so_cmp (or_eq c.cx) (t_ex (t_len c z.f_len (by decide +kernel) (t_ocons (t_sl c (by decide +kernel)) rfl t_onil) rfl)) (t_sl c (by decide +kernel)) rfl))))
    (sss_nil)
theorem ok_is_tuple_of {P : Program} {w : World} {base : Heap} {G : Gv} (z : Fx G) : FnG P w base G 1 "is_tuple_of" 2 F_is_tuple_of :=
  t_def (N := [("value" : Str), ("many" : Str)]) (ps := [("value" : Str), ("many" : Str)]) z.d_is_tuple_of ⟨rfl, rfl, rfl, by decide +kernel, rfl, by decide +kernel, by decide +kernel⟩ z.g_is_tuple_of (fun _ _ _ _ _ _ us hl => match us, hl with | [_, _], _ => rfl) fun X c => bd_is_tuple_of z X c
/-! are_rising -/
def b_are_rising : SW := sSeq (sRet (oPrim (lift1 pAll) [.ex (oComp [1] (iRange2 (oC (.int 1)) (oPrim (lift1 pLen) [.sl 0])) (gNm 1) (tTrue) (oPrim (lift2 pLt) [.ex (oPrim (lift2 pIx) [.sl 0, .ex (oPrim (lift2 pSub) [.sl 1, .ex (oC (.int 1))])]), .ex (oPrim (lift2 pIx) [.sl 0, .sl 1])]))])) (sNext)
def F_are_rising : FW := fnW 2 b_are_rising
theorem bd_are_rising {P : Program} {w : World} {base : Heap} {G : Gv} (z : Fx G) (X : Cx) (c : CT X P w base G 0 [("value" : Str), ("index" : Str)] (defScope (top 10)) (defScope (top 10))) : SSs X G (defBody (top 10)) b_are_rising :=
  sss_cons (ss_ret (t_all c z.f_all (by decide +kernel) (t_ocons (t_ex (t_comp c [(("index" : Str), 1)] (t_irange2 c z.f_range (by decide +kernel) (t_int) rfl (t_len c z.f_len (by decide +kernel) (t_ocons (t_sl c (by decide +kernel)) rfl t_onil) rfl) rfl) (by decide +kernel) (by decide +kernel) (fun _ d1 => t_gnm d1 (by decide +kernel)) (fun _ d1 => st_nil) (fun _ d1 => so_cmp (or_lt d1.cx) (t_ex (so_ix (ir_ix d1.cx) (fun _ _ => rfl) (t_sl d1 (by decide +kernel)) (t_ex (so_bin or_sub (t_sl d1 (by decide +kernel)) (t_ex (t_int)))))) (t_ex (so_ix (ir_ix d1.cx) (fun _ _ => rfl) (t_sl d1 (by decide +kernel)) (t_sl d1 (by decide +kernel)))) rfl) (fun _ _ => rfl))) rfl t_onil) rfl))
    (sss_nil)
theorem ok_are_rising {P : Program} {w : World} {base : Heap} {G : Gv} (z : Fx G) : FnG P w base G 1 "are_rising" 1 F_are_rising :=
  t_def (N := [("value" : Str), ("index" : Str)]) (ps := [("value" : Str)]) z.d_are_rising ⟨rfl, rfl, rfl, by decide +kernel, rfl, by decide +kernel, by decide +kernel⟩ z.g_are_rising (fun _ _ _ _ _ _ us hl => match us, hl with | [_], _ => rfl) fun X c => bd_are_rising z X c
/-! first_wrong -/
def b_first_wrong : SW := sSeq (sIf (tOrW (tNotW (tTru (.ex (oPrim (lift2 pIsi) [.sl 0, .ex (oC (.ty "tuple"))])))) (tNotW (tOf (oChain (lift2 pLe) (lift2 pLe) (.sl 1) (.ex (oPrim (lift1 pLen) [.sl 0])) (.sl 2))))) (sSeq (sRet (oLst [oC .non])) (sNext)) (sNext)) (sSeq (sRet (oSl (.ex (oComp [4, 5] (iEnum' (oVar 0)) (gTup [gNm 4, gNm 5]) (tNotW (tTru (.ex (oCallL 3 ("is_number" : Str) 1 F_is_number [oVar 5])))) (oVar 4))) none (some (oC (.int 1))))) (sNext))
def F_first_wrong : FW := fnW 6 b_first_wrong
theorem bd_first_wrong {P : Program} {w : World} {base : Heap} {G : Gv} (z : Fx G) (X : Cx) (c : CT X P w base G 2 [("value" : Str), ("low" : Str), ("high" : Str), ("is_one" : Str), ("index" : Str), ("each" : Str)] (defScope (top 11)) (defScope (top 11))) : SSs X G (defBody (top 11)) b_first_wrong :=
  sss_cons (ss_if (PW.pt (sw_or (sv_not (sv_tru c.cx (t_ex (t_isi c z.f_isinstance (by decide +kernel) (t_ocons (t_sl c (by decide +kernel)) rfl (t_ocons (t_ex (t_ty c z.f_tuple (by decide +kernel) boot_tuple (by decide))) rfl t_onil)) rfl)) (fun _ => rfl))) (sw_or1 (sv_not (sv_chain (or_le c.cx) (or_le c.cx) (t_sl c (by decide +kernel)) (t_ex (t_len c z.f_len (by decide +kernel) (t_ocons (t_sl c (by decide +kernel)) rfl t_onil) rfl)) (t_sl c (by decide +kernel)) rfl))))) (sss_cons (ss_ret (so_lst (by decide) (t_acons (t_none) rfl t_anil)))
    (sss_nil)) (sss_nil))
    (sss_cons (ss_ret (so_sl c.cx (t_ex (t_comp c [(("index" : Str), 4), (("each" : Str), 5)] (t_ienum c z.f_enumerate (by decide +kernel) (t_var c (by decide +kernel)) rfl) (by decide +kernel) (by decide +kernel) (fun _ d1 => t_gtup d1 (sgs_cons (t_gnm d1 (by decide +kernel)) (sgs_cons (t_gnm d1 (by decide +kernel)) sgs_nil rfl) rfl) rfl rfl) (fun _ d1 => st_one (sv_not (sv_tru d1.cx (t_ex (t_callL d1 (ok_is_number z) (by decide) (by decide +kernel) (t_acons (t_var d1 (by decide +kernel)) rfl t_anil) rfl)) (fun _ => rfl)))) (fun _ d1 => t_var d1 (by decide +kernel)) (fun _ _ => rfl))) po_n (po_s (t_int))))
    (sss_nil))
theorem ok_first_wrong {P : Program} {w : World} {base : Heap} {G : Gv} (z : Fx G) : FnG P w base G 3 "first_wrong" 4 F_first_wrong :=
  t_def (N := [("value" : Str), ("low" : Str), ("high" : Str), ("is_one" : Str), ("index" : Str), ("each" : Str)]) (ps := [("value" : Str), ("low" : Str), ("high" : Str), ("is_one" : Str)]) z.d_first_wrong ⟨rfl, rfl, rfl, by decide +kernel, rfl, by decide +kernel, by decide +kernel⟩ z.g_first_wrong (fun _ _ _ _ _ _ us hl => match us, hl with | [_, _, _, _], _ => rfl) fun X c => bd_first_wrong z X c
/-! is_win -/
def b_is_win : SW := sSeq (sIf (tOrW (tNotW (tTru (.ex (oCall 2 F_is_tuple_of [oVar 1, oC (.int 2)])))) (tOrW (tNotW (tTru (.ex (oCall 3 F_is_between [oPrim (lift2 pIx) [.sl 1, .ex (oC (.int 0))], oC (.int 0), oPrim (lift2 pSub) [.sl 0, .ex (oC (.int 1))]])))) (tNotW (tTru (.ex (oCall 3 F_is_between [oPrim (lift2 pIx) [.sl 1, .ex (oC (.int 1))], oC (.int 0), oPrim (lift2 pSub) [.sl 0, .ex (oC (.int 1))]])))))) (sSeq (sRet (oC (.bl false))) (sNext)) (sNext)) (sSeq (sRet (oPrim (lift2 (pEq true)) [.ex (oPrim (lift2 pIx) [.sl 1, .ex (oC (.int 0))]), .ex (oPrim (lift2 pIx) [.sl 1, .ex (oC (.int 1))])])) (sNext))
def F_is_win : FW := fnW 2 b_is_win
theorem bd_is_win {P : Program} {w : World} {base : Heap} {G : Gv} (z : Fx G) (X : Cx) (c : CT X P w base G 2 [("many" : Str), ("value" : Str)] (defScope (top 16)) (defScope (top 16))) : SSs X G (defBody (top 16)) b_is_win :=
  sss_cons (ss_if (PW.pt (sw_or (sv_not (sv_tru c.cx (t_ex (t_call c (ok_is_tuple_of z) (by decide) (by decide +kernel) (t_acons (t_var c (by decide +kernel)) rfl (t_acons (t_int) rfl t_anil)) rfl)) (fun _ => rfl))) (sw_or (sv_not (sv_tru c.cx (t_ex (t_call c (ok_is_between z) (by decide) (by decide +kernel) (t_acons (so_ix (ir_ix c.cx) (fun _ _ => rfl) (t_sl c (by decide +kernel)) (t_ex (t_int))) rfl (t_acons (t_int) rfl (t_acons (so_bin or_sub (t_sl c (by decide +kernel)) (t_ex (t_int))) rfl t_anil))) rfl)) (fun _ => rfl))) (sw_or1 (sv_not (sv_tru c.cx (t_ex (t_call c (ok_is_between z) (by decide) (by decide +kernel) (t_acons (so_ix (ir_ix c.cx) (fun _ _ => rfl) (t_sl c (by decide +kernel)) (t_ex (t_int))) rfl (t_acons (t_int) rfl (t_acons (so_bin or_sub (t_sl c (by decide +kernel)) (t_ex (t_int))) rfl t_anil))) rfl)) (fun _ => rfl))))))) (sss_cons (ss_ret (t_bl))
    (sss_nil)) (sss_nil))
    (sss_cons (ss_ret (so_cmp (or_ne c.cx) (t_ex (so_ix (ir_ix c.cx) (fun _ _ => rfl) (t_sl c (by decide +kernel)) (t_ex (t_int)))) (t_ex (so_ix (ir_ix c.cx) (fun _ _ => rfl) (t_sl c (by decide +kernel)) (t_ex (t_int)))) rfl))
    (sss_nil))
theorem ok_is_win {P : Program} {w : World} {base : Heap} {G : Gv} (z : Fx G) : FnG P w base G 3 "is_win" 2 F_is_win :=
  t_def (N := [("many" : Str), ("value" : Str)]) (ps := [("many" : Str), ("value" : Str)]) z.d_is_win ⟨rfl, rfl, rfl, by decide +kernel, rfl, by decide +kernel, by decide +kernel⟩ z.g_is_win (fun _ _ _ _ _ _ us hl => match us, hl with | [_, _], _ => rfl) fun X c => bd_is_win z X c
/-! are_wins -/
def b_are_wins : SW := sSeq (sIf (tOrW (tNotW (tTru (.ex (oPrim (lift2 pIsi) [.sl 1, .ex (oC (.ty "tuple"))])))) (tOrW (tNotW (tTru (.ex (oPrim (lift1 pAll) [.ex (oComp [2] (iSeq (oVar 1)) (gNm 2) (tTrue) (oCall 2 F_is_win [oVar 0, oVar 2]))])))) (tNotW (tTru (.ex (oCall 1 F_are_rising [oVar 1])))))) (sSeq (sRet (oC (.bl false))) (sNext)) (sNext)) (sSeq (sRet (oNotT (oPrim (lift1 pAny) [.ex (oComp [3, 4] (iSeq (oVar 1)) (gTup [gNm 3, gNm 4]) (tTrue) (oPrim (lift2 (pIn false)) [.ex (oTup [oVar 4, oVar 3]), .sl 1]))]))) (sNext))
def F_are_wins : FW := fnW 5 b_are_wins
theorem bd_are_wins {P : Program} {w : World} {base : Heap} {G : Gv} (z : Fx G) (X : Cx) (c : CT X P w base G 3 [("many" : Str), ("value" : Str), ("each" : Str), ("one" : Str), ("two" : Str)] (defScope (top 17)) (defScope (top 17))) : SSs X G (defBody (top 17)) b_are_wins :=
  sss_cons (ss_if (PW.pt (sw_or (sv_not (sv_tru c.cx (t_ex (t_isi c z.f_isinstance (by decide +kernel) (t_ocons (t_sl c (by decide +kernel)) rfl (t_ocons (t_ex (t_ty c z.f_tuple (by decide +kernel) boot_tuple (by decide))) rfl t_onil)) rfl)) (fun _ => rfl))) (sw_or (sv_not (sv_tru c.cx (t_ex (t_all c z.f_all (by decide +kernel) (t_ocons (t_ex (t_comp c [(("each" : Str), 2)] (t_iseq c (t_var c (by decide +kernel))) (by decide +kernel) (by decide +kernel) (fun _ d1 => t_gnm d1 (by decide +kernel)) (fun _ d1 => st_nil) (fun _ d1 => t_call d1 (ok_is_win z) (by decide) (by decide +kernel) (t_acons (t_var d1 (by decide +kernel)) rfl (t_acons (t_var d1 (by decide +kernel)) rfl t_anil)) rfl) (fun _ _ => rfl))) rfl t_onil) rfl)) (fun _ => rfl))) (sw_or1 (sv_not (sv_tru c.cx (t_ex (t_call c (ok_are_rising z) (by decide) (by decide +kernel) (t_acons (t_var c (by decide +kernel)) rfl t_anil) rfl)) (fun _ => rfl))))))) (sss_cons (ss_ret (t_bl))
    (sss_nil)) (sss_nil))
    (sss_cons (ss_ret (t_notT c (t_any c z.f_any (by decide +kernel) (t_ocons (t_ex (t_comp c [(("one" : Str), 3), (("two" : Str), 4)] (t_iseq c (t_var c (by decide +kernel))) (by decide +kernel) (by decide +kernel) (fun _ d1 => t_gtup d1 (sgs_cons (t_gnm d1 (by decide +kernel)) (sgs_cons (t_gnm d1 (by decide +kernel)) sgs_nil rfl) rfl) rfl rfl) (fun _ d1 => st_nil) (fun _ d1 => so_cmp (or_in d1.cx) (t_ex (so_tup (by decide) (t_acons (t_var d1 (by decide +kernel)) rfl (t_acons (t_var d1 (by decide +kernel)) rfl t_anil)))) (t_sl d1 (by decide +kernel)) rfl) (fun _ _ => rfl))) rfl t_onil) rfl)))
    (sss_nil))
theorem ok_are_wins {P : Program} {w : World} {base : Heap} {G : Gv} (z : Fx G) : FnG P w base G 4 "are_wins" 2 F_are_wins :=
  t_def (N := [("many" : Str), ("value" : Str), ("each" : Str), ("one" : Str), ("two" : Str)]) (ps := [("many" : Str), ("value" : Str)]) z.d_are_wins ⟨rfl, rfl, rfl, by decide +kernel, rfl, by decide +kernel, by decide +kernel⟩ z.g_are_wins (fun _ _ _ _ _ _ us hl => match us, hl with | [_, _], _ => rfl) fun X c => bd_are_wins z X c
/-! are_games_by -/
def b_are_games_by : SW := sSeq (sIf (tOrW (tNotW (tTru (.ex (oCall 2 F_is_tuple_of [oVar 0, oC (.int 2)])))) (tNotW (tTru (.ex (oCall 3 F_is_between [oPrim (lift2 pIx) [.sl 0, .ex (oC (.int 0))], oC (.int 1), oC (.int 8)]))))) (sSeq (sRet (oC (.bl false))) (sNext)) (sNext)) (sSeq (sRet (oCall 2 F_are_wins [oPrim (lift2 pIx) [.sl 0, .ex (oC (.int 0))], oPrim (lift2 pIx) [.sl 0, .ex (oC (.int 1))]])) (sNext))
def F_are_games_by : FW := fnW 1 b_are_games_by
theorem bd_are_games_by {P : Program} {w : World} {base : Heap} {G : Gv} (z : Fx G) (X : Cx) (c : CT X P w base G 4 [("value" : Str)] (defScope (top 18)) (defScope (top 18))) : SSs X G (defBody (top 18)) b_are_games_by :=
  sss_cons (ss_if (PW.pt (sw_or (sv_not (sv_tru c.cx (t_ex (t_call c (ok_is_tuple_of z) (by decide) (by decide +kernel) (t_acons (t_var c (by decide +kernel)) rfl (t_acons (t_int) rfl t_anil)) rfl)) (fun _ => rfl))) (sw_or1 (sv_not (sv_tru c.cx (t_ex (t_call c (ok_is_between z) (by decide) (by decide +kernel) (t_acons (so_ix (ir_ix c.cx) (fun _ _ => rfl) (t_sl c (by decide +kernel)) (t_ex (t_gint c z.c_MANY (by decide +kernel)))) rfl (t_acons (t_int) rfl (t_acons (t_gint c z.c_MOST_PLAYERS (by decide +kernel)) rfl t_anil))) rfl)) (fun _ => rfl)))))) (sss_cons (ss_ret (t_bl))
    (sss_nil)) (sss_nil))
    (sss_cons (ss_ret (t_call c (ok_are_wins z) (by decide) (by decide +kernel) (t_acons (so_ix (ir_ix c.cx) (fun _ _ => rfl) (t_sl c (by decide +kernel)) (t_ex (t_gint c z.c_MANY (by decide +kernel)))) rfl (t_acons (so_ix (ir_ix c.cx) (fun _ _ => rfl) (t_sl c (by decide +kernel)) (t_ex (t_gint c z.c_WINS (by decide +kernel)))) rfl t_anil)) rfl))
    (sss_nil))
theorem ok_are_games_by {P : Program} {w : World} {base : Heap} {G : Gv} (z : Fx G) : FnG P w base G 5 "are_games_by" 1 F_are_games_by :=
  t_def (N := [("value" : Str)]) (ps := [("value" : Str)]) z.d_are_games_by ⟨rfl, rfl, rfl, by decide +kernel, rfl, by decide +kernel, by decide +kernel⟩ z.g_are_games_by (fun _ _ _ _ _ _ us hl => match us, hl with | [_], _ => rfl) fun X c => bd_are_games_by z X c
/-! players_of -/
def b_players_of : SW := sSeq (sRet (rgW (iRange1 (oPrim (lift2 pIx) [.sl 0, .ex (oC (.int 0))])) false)) (sNext)
def F_players_of : FW := fnW 1 b_players_of
theorem bd_players_of {P : Program} {w : World} {base : Heap} {G : Gv} (z : Fx G) (X : Cx) (c : CT X P w base G 0 [("games" : Str)] (defScope (top 19)) (defScope (top 19))) : SSs X G (defBody (top 19)) b_players_of :=
  sss_cons (ss_ret (t_listRg1 c z.f_list z.f_range (by decide +kernel) (by decide +kernel) (so_ix (ir_ix c.cx) (fun _ _ => rfl) (t_sl c (by decide +kernel)) (t_ex (t_gint c z.c_MANY (by decide +kernel)))) rfl))
    (sss_nil)
theorem ok_players_of {P : Program} {w : World} {base : Heap} {G : Gv} (z : Fx G) : FnG P w base G 1 "players_of" 1 F_players_of :=
  t_def (N := [("games" : Str)]) (ps := [("games" : Str)]) z.d_players_of ⟨rfl, rfl, rfl, by decide +kernel, rfl, by decide +kernel, by decide +kernel⟩ z.g_players_of (fun _ _ _ _ _ _ us hl => match us, hl with | [_], _ => rfl) fun X c => bd_players_of z X c
/-! points_by -/
def b_points_by : SW := sSeq (sSet 1 (oComp [2] (iSeq (oCall 1 F_players_of [oVar 0])) (gNm 2) (tTrue) (oC (.int 0)))) (sSeq (sFor (iSeq (oPrim (lift2 pIx) [.sl 0, .ex (oC (.int 1))])) (gTup [gNm 3, gNm 2]) (sSeq (sTgt (gPut 1 (.sl 3)) (oPrim (lift2 pAdd) [.ex (oPrim (lift2 pIx) [.sl 1, .sl 3]), .ex (oC (.int 1))])) (sNext))) (sSeq (sRet (oPrim (lift1 pTuple) [.sl 1])) (sNext)))
def F_points_by : FW := fnW 4 b_points_by
theorem bd_points_by {P : Program} {w : World} {base : Heap} {G : Gv} (z : Fx G) (X : Cx) (c : CT X P w base G 1 [("games" : Str), ("found" : Str), ("_" : Str), ("one" : Str)] (defScope (top 20)) (defScope (top 20))) : SSs X G (defBody (top 20)) b_points_by :=
  sss_cons (t_setComp c [(("_" : Str), 2)] (by decide +kernel) (by decide +kernel) (fun _ => rfl) (t_iseq c (t_call c (ok_players_of z) (by decide) (by decide +kernel) (t_acons (t_var c (by decide +kernel)) rfl t_anil) rfl)) (by decide +kernel) (by decide +kernel) (fun _ d1 => t_gnm d1 (by decide +kernel)) (fun _ d1 => st_nil) (fun _ d1 => t_int) (fun _ _ => rfl))
    (sss_cons (ss_for c.cx (t_iseq c (so_ix (ir_ix c.cx) (fun _ _ => rfl) (t_sl c (by decide +kernel)) (t_ex (t_gint c z.c_WINS (by decide +kernel))))) (t_gtup c (sgs_cons (t_gnm c (by decide +kernel)) (sgs_cons (t_gnm c (by decide +kernel)) sgs_nil rfl) rfl) rfl rfl) (sss_cons (t_tgt c (so_bin or_add (t_ex (so_ix (ir_ix c.cx) (fun _ _ => rfl) (t_sl c (by decide +kernel)) (t_sl c (by decide +kernel)))) (t_ex (t_int))) (t_gput c (by decide +kernel) (t_sl c (by decide +kernel)) rfl) rfl rfl (fun _ => rfl))
    (sss_nil)) (fun _ => rfl))
    (sss_cons (ss_ret (t_tuple_ c z.f_tuple (by decide +kernel) (t_ocons (t_sl c (by decide +kernel)) rfl t_onil) rfl))
    (sss_nil)))
theorem ok_points_by {P : Program} {w : World} {base : Heap} {G : Gv} (z : Fx G) : FnG P w base G 2 "points_by" 1 F_points_by :=
  t_def (N := [("games" : Str), ("found" : Str), ("_" : Str), ("one" : Str)]) (ps := [("games" : Str)]) z.d_points_by ⟨rfl, rfl, rfl, by decide +kernel, rfl, by decide +kernel, by decide +kernel⟩ z.g_points_by (fun _ _ _ _ _ _ us hl => match us, hl with | [_], _ => rfl) fun X c => bd_points_by z X c
/-! check_games -/
def b_check_games : SW := sSeq (sIf (tNotW (tTru (.ex (oCall 1 F_are_games_by [oVar 0])))) (sSeq (sNever) (sNext)) (sNext)) (sNext)
def F_check_games : FW := fnW 1 b_check_games
theorem bd_check_games {P : Program} {w : World} {base : Heap} {G : Gv} (z : Fx G) (X : Cx) (c : CT X P w base G 5 [("value" : Str)] (defScope (top 22)) (defScope (top 22))) : SSs X G (defBody (top 22)) b_check_games :=
  sss_cons (ss_if (sv_not (sv_tru c.cx (t_ex (t_call c (ok_are_games_by z) (by decide) (by decide +kernel) (t_acons (t_var c (by decide +kernel)) rfl t_anil) rfl)) (fun _ => rfl))) (sss_cons (ss_never)
    (sss_nil)) (sss_nil))
    (sss_nil)
theorem ok_check_games {P : Program} {w : World} {base : Heap} {G : Gv} (z : Fx G) : FnG P w base G 6 "check_games" 1 F_check_games :=
  t_def (N := [("value" : Str)]) (ps := [("value" : Str)]) z.d_check_games ⟨rfl, rfl, rfl, by decide +kernel, rfl, by decide +kernel, by decide +kernel⟩ z.g_check_games (fun _ _ _ _ _ _ us hl => match us, hl with | [_], _ => rfl) fun X c => bd_check_games z X c
/-! check_numbers -/
def b_check_numbers : SW := sSeq (sFor (iSeq (oCall 4 F_first_wrong [oVar 0, oC (.int 1), oC (.int 8), oC (.fn ("is_number" : Str))])) (gNm 1) (sSeq (sNever) (sNext))) (sNext)
def F_check_numbers : FW := fnW 2 b_check_numbers
theorem bd_check_numbers {P : Program} {w : World} {base : Heap} {G : Gv} (z : Fx G) (X : Cx) (c : CT X P w base G 3 [("value" : Str), ("index" : Str)] (defScope (top 23)) (defScope (top 23))) : SSs X G (defBody (top 23)) b_check_numbers :=
  sss_cons (ss_for c.cx (t_iseq c (t_call c (ok_first_wrong z) (by decide) (by decide +kernel) (t_acons (t_var c (by decide +kernel)) rfl (t_acons (t_int) rfl (t_acons (t_gint c z.c_MOST_PLAYERS (by decide +kernel)) rfl (t_acons (t_fn c (ok_is_number z) (by decide +kernel)) rfl t_anil)))) rfl)) (t_gnm c (by decide +kernel)) (sss_cons (ss_never)
    (sss_nil)) (fun _ => rfl))
    (sss_nil)
theorem ok_check_numbers {P : Program} {w : World} {base : Heap} {G : Gv} (z : Fx G) : FnG P w base G 4 "check_numbers" 1 F_check_numbers :=
  t_def (N := [("value" : Str), ("index" : Str)]) (ps := [("value" : Str)]) z.d_check_numbers ⟨rfl, rfl, rfl, by decide +kernel, rfl, by decide +kernel, by decide +kernel⟩ z.g_check_numbers (fun _ _ _ _ _ _ us hl => match us, hl with | [_], _ => rfl) fun X c => bd_check_numbers z X c
/-! is_figures -/
def b_is_figures : SW := sSeq (sIf (tOrW (tOf (oPrim (lift2 (pEq false)) [.sl 0, .ex (oC (.str ("" : Str)))])) (tTru (.ex (oPrim (lift1 pAny) [.ex (oComp [1] (iSeq (oVar 0)) (gNm 1) (tTrue) (oPrim (lift2 (pIn true)) [.sl 1, .ex (oC (.str ("0123456789" : Str)))]))])))) (sSeq (sRet (oC (.bl false))) (sNext)) (sNext)) (sSeq (sRet (oOr (oPrim (lift2 (pEq false)) [.sl 0, .ex (oC (.str ("0" : Str)))]) (oPrim (lift2 (pEq true)) [.ex (oPrim (lift2 pIx) [.sl 0, .ex (oC (.int 0))]), .ex (oC (.str ("0" : Str)))]))) (sNext))
def F_is_figures : FW := fnW 2 b_is_figures
theorem bd_is_figures {P : Program} {w : World} {base : Heap} {G : Gv} (z : Fx G) (X : Cx) (c : CT X P w base G 0 [("text" : Str), ("sign" : Str)] (defScope (top 30)) (defScope (top 30))) : SSs X G (defBody (top 30)) b_is_figures :=
  sss_cons (ss_if (PW.pt (sw_or (sv_cmp (or_eq c.cx) (t_sl c (by decide +kernel)) (t_ex (t_str)) rfl) (sw_or1 (sv_tru c.cx (t_ex (t_any c z.f_any (by decide +kernel) (t_ocons (t_ex (t_comp c [(("sign" : Str), 1)] (t_iseq c (t_var c (by decide +kernel))) (by decide +kernel) (by decide +kernel) (fun _ d1 => t_gnm d1 (by decide +kernel)) (fun _ d1 => st_nil) (fun _ d1 => so_cmp (or_notin d1.cx) (t_sl d1 (by decide +kernel)) (t_ex (t_gstr d1 z.c_FIGURES (by decide +kernel))) rfl) (fun _ _ => rfl))) rfl t_onil) rfl)) (fun _ => rfl))))) (sss_cons (ss_ret (t_bl))
    (sss_nil)) (sss_nil))
    (sss_cons (ss_ret (so_or c.cx (so_cmp (or_eq c.cx) (t_sl c (by decide +kernel)) (t_ex (t_str)) rfl) (so_one (so_cmp (or_ne c.cx) (t_ex (so_ix (ir_ix c.cx) (fun _ _ => rfl) (t_sl c (by decide +kernel)) (t_ex (t_int)))) (t_ex (t_str)) rfl))))
    (sss_nil))
theorem ok_is_figures {P : Program} {w : World} {base : Heap} {G : Gv} (z : Fx G) : FnG P w base G 1 "is_figures" 1 F_is_figures :=
  t_def (N := [("text" : Str), ("sign" : Str)]) (ps := [("text" : Str)]) z.d_is_figures ⟨rfl, rfl, rfl, by decide +kernel, rfl, by decide +kernel, by decide +kernel⟩ z.g_is_figures (fun _ _ _ _ _ _ us hl => match us, hl with | [_], _ => rfl) fun X c => bd_is_figures z X c
/-! numbers_in -/
def b_numbers_in : SW := sSeq (sRet (oIf (tTru (.ex (oPrim (lift1 pAll) [.ex (oComp [1] (iSeq (oVar 0)) (gNm 1) (tTrue) (oCall 1 F_is_figures [oVar 1]))]))) (oLst [oPrim (lift1 pTuple) [.ex (oComp [1] (iSeq (oVar 0)) (gNm 1) (tTrue) (oPrim (lift1 pInt) [.sl 1]))]]) (oLst []))) (sNext)
def F_numbers_in : FW := fnW 2 b_numbers_in
theorem bd_numbers_in {P : Program} {w : World} {base : Heap} {G : Gv} (z : Fx G) (X : Cx) (c : CT X P w base G 1 [("words" : Str), ("word" : Str)] (defScope (top 31)) (defScope (top 31))) : SSs X G (defBody (top 31)) b_numbers_in :=
  sss_cons (ss_ret (so_if (sv_tru c.cx (t_ex (t_all c z.f_all (by decide +kernel) (t_ocons (t_ex (t_comp c [(("word" : Str), 1)] (t_iseq c (t_var c (by decide +kernel))) (by decide +kernel) (by decide +kernel) (fun _ d1 => t_gnm d1 (by decide +kernel)) (fun _ d1 => st_nil) (fun _ d1 => t_call d1 (ok_is_figures z) (by decide) (by decide +kernel) (t_acons (t_var d1 (by decide +kernel)) rfl t_anil) rfl) (fun _ _ => rfl))) rfl t_onil) rfl)) (fun _ => rfl)) (so_lst (by decide) (t_acons (t_tuple_ c z.f_tuple (by decide +kernel) (t_ocons (t_ex (t_comp c [(("word" : Str), 1)] (t_iseq c (t_var c (by decide +kernel))) (by decide +kernel) (by decide +kernel) (fun _ d1 => t_gnm d1 (by decide +kernel)) (fun _ d1 => st_nil) (fun _ d1 => t_int_ d1 z.f_int (by decide +kernel) (t_ocons (t_sl d1 (by decide +kernel)) rfl t_onil) rfl) (fun _ _ => rfl))) rfl t_onil) rfl) rfl t_anil)) (so_lst (by decide) t_anil)))
    (sss_nil)
theorem ok_numbers_in {P : Program} {w : World} {base : Heap} {G : Gv} (z : Fx G) : FnG P w base G 2 "numbers_in" 1 F_numbers_in :=
  t_def (N := [("words" : Str), ("word" : Str)]) (ps := [("words" : Str)]) z.d_numbers_in ⟨rfl, rfl, rfl, by decide +kernel, rfl, by decide +kernel, by decide +kernel⟩ z.g_numbers_in (fun _ _ _ _ _ _ us hl => match us, hl with | [_], _ => rfl) fun X c => bd_numbers_in z X c
/-! text_of_numbers -/
def b_text_of_numbers : SW := sSeq (sRet (oMeth (lift2 pJoin) (.ex (oC (.str (" " : Str)))) [.ex (oComp [1] (iSeq (oVar 0)) (gNm 1) (tTrue) (oPrim (lift1 pStr) [.sl 1]))])) (sNext)
def F_text_of_numbers : FW := fnW 2 b_text_of_numbers
theorem bd_text_of_numbers {P : Program} {w : World} {base : Heap} {G : Gv} (z : Fx G) (X : Cx) (c : CT X P w base G 0 [("numbers" : Str), ("number" : Str)] (defScope (top 32)) (defScope (top 32))) : SSs X G (defBody (top 32)) b_text_of_numbers :=
  sss_cons (ss_ret (t_join c (t_ex (t_gstr c z.c_BLANK (by decide +kernel))) (t_ex (t_comp c [(("number" : Str), 1)] (t_iseq c (t_var c (by decide +kernel))) (by decide +kernel) (by decide +kernel) (fun _ d1 => t_gnm d1 (by decide +kernel)) (fun _ d1 => st_nil) (fun _ d1 => t_str_ d1 z.f_str (by decide +kernel) (t_ocons (t_sl d1 (by decide +kernel)) rfl t_onil) rfl) (fun _ _ => rfl))) rfl rfl rfl))
    (sss_nil)
theorem ok_text_of_numbers {P : Program} {w : World} {base : Heap} {G : Gv} (z : Fx G) : FnG P w base G 1 "text_of_numbers" 1 F_text_of_numbers :=
  t_def (N := [("numbers" : Str), ("number" : Str)]) (ps := [("numbers" : Str)]) z.d_text_of_numbers ⟨rfl, rfl, rfl, by decide +kernel, rfl, by decide +kernel, by decide +kernel⟩ z.g_text_of_numbers (fun _ _ _ _ _ _ us hl => match us, hl with | [_], _ => rfl) fun X c => bd_text_of_numbers z X c
/-! list_with_text -/
def b_list_with_text : SW := sSeq (sRet (oComp [1] (iSeq (oCall 1 F_numbers_in [oMeth (lift2 pSplit) (.sl 0) [.ex (oC (.str (" " : Str)))]])) (gNm 1) (tOf (oPrim (lift2 pLe) [.ex (oPrim (lift1 pLen) [.sl 1]), .ex (oC (.int 8))])) (oVar 1))) (sNext)
def F_list_with_text : FW := fnW 2 b_list_with_text
theorem bd_list_with_text {P : Program} {w : World} {base : Heap} {G : Gv} (z : Fx G) (X : Cx) (c : CT X P w base G 2 [("text" : Str), ("numbers" : Str)] (defScope (top 33)) (defScope (top 33))) : SSs X G (defBody (top 33)) b_list_with_text :=
  sss_cons (ss_ret (t_comp c [(("numbers" : Str), 1)] (t_iseq c (t_call c (ok_numbers_in z) (by decide) (by decide +kernel) (t_acons (t_split c (t_sl c (by decide +kernel)) (t_ex (t_gstr c z.c_BLANK (by decide +kernel))) rfl rfl rfl) rfl t_anil) rfl)) (by decide +kernel) (by decide +kernel) (fun _ d1 => t_gnm d1 (by decide +kernel)) (fun _ d1 => st_one (sv_cmp (or_le d1.cx) (t_ex (t_len d1 z.f_len (by decide +kernel) (t_ocons (t_sl d1 (by decide +kernel)) rfl t_onil) rfl)) (t_ex (t_gint d1 z.c_MOST_PLAYERS (by decide +kernel))) rfl)) (fun _ d1 => t_var d1 (by decide +kernel)) (fun _ _ => rfl)))
    (sss_nil)
theorem ok_list_with_text {P : Program} {w : World} {base : Heap} {G : Gv} (z : Fx G) : FnG P w base G 3 "list_with_text" 1 F_list_with_text :=
  t_def (N := [("text" : Str), ("numbers" : Str)]) (ps := [("text" : Str)]) z.d_list_with_text ⟨rfl, rfl, rfl, by decide +kernel, rfl, by decide +kernel, by decide +kernel⟩ z.g_list_with_text (fun _ _ _ _ _ _ us hl => match us, hl with | [_], _ => rfl) fun X c => bd_list_with_text z X c
/-! text_of_games -/
def b_text_of_games : SW := sSeq (sSet 1 (oLst [oMeth (lift2 pJoin) (.ex (oC (.str (" " : Str)))) [.ex (oTup [oC (.str ("players" : Str)), oPrim (lift1 pStr) [.ex (oPrim (lift2 pIx) [.sl 0, .ex (oC (.int 0))])]])]])) (sSeq (sDrop (oExt 1 (oComp [2, 3] (iSeq (oPrim (lift2 pIx) [.sl 0, .ex (oC (.int 1))])) (gTup [gNm 2, gNm 3]) (tTrue) (oMeth (lift2 pJoin) (.ex (oC (.str (" " : Str)))) [.ex (oTup [oPrim (lift1 pStr) [.sl 2], oC (.str ("beat" : Str)), oPrim (lift1 pStr) [.sl 3]])])))) (sSeq (sRet (oMeth (lift2 pJoin) (.ex (oC (.str ("" : Str)))) [.ex (oComp [4] (iSeq (oVar 1)) (gNm 4) (tTrue) (oPrim (lift2 pAdd) [.sl 4, .ex (oC (.str ("\n" : Str)))]))])) (sNext)))
def F_text_of_games : FW := fnW 5 b_text_of_games
theorem bd_text_of_games {P : Program} {w : World} {base : Heap} {G : Gv} (z : Fx G) (X : Cx) (c : CT X P w base G 0 [("games" : Str), ("lines" : Str), ("one" : Str), ("two" : Str), ("line" : Str)] (defScope (top 34)) (defScope (top 34))) : SSs X G (defBody (top 34)) b_text_of_games :=
  sss_cons (t_set c (by decide +kernel) (so_lst (by decide) (t_acons (t_join c (t_ex (t_gstr c z.c_BLANK (by decide +kernel))) (t_ex (so_tup (by decide) (t_acons (t_gstr c z.c_PLAYERS_WORD (by decide +kernel)) rfl (t_acons (t_str_ c z.f_str (by decide +kernel) (t_ocons (t_ex (so_ix (ir_ix c.cx) (fun _ _ => rfl) (t_sl c (by decide +kernel)) (t_ex (t_gint c z.c_MANY (by decide +kernel))))) rfl t_onil) rfl) rfl t_anil)))) rfl rfl rfl) rfl t_anil)) rfl)
    (sss_cons (ss_drop (so_ext (t_pv c (by decide +kernel)) rfl (t_comp c [(("one" : Str), 2), (("two" : Str), 3)] (t_iseq c (so_ix (ir_ix c.cx) (fun _ _ => rfl) (t_sl c (by decide +kernel)) (t_ex (t_gint c z.c_WINS (by decide +kernel))))) (by decide +kernel) (by decide +kernel) (fun _ d1 => t_gtup d1 (sgs_cons (t_gnm d1 (by decide +kernel)) (sgs_cons (t_gnm d1 (by decide +kernel)) sgs_nil rfl) rfl) rfl rfl) (fun _ d1 => st_nil) (fun _ d1 => t_join d1 (t_ex (t_gstr d1 z.c_BLANK (by decide +kernel))) (t_ex (so_tup (by decide) (t_acons (t_str_ d1 z.f_str (by decide +kernel) (t_ocons (t_sl d1 (by decide +kernel)) rfl t_onil) rfl) rfl (t_acons (t_gstr d1 z.c_BEAT_WORD (by decide +kernel)) rfl (t_acons (t_str_ d1 z.f_str (by decide +kernel) (t_ocons (t_sl d1 (by decide +kernel)) rfl t_onil) rfl) rfl t_anil))))) rfl rfl rfl) (fun _ _ => rfl)) rfl rfl) rfl)
    (sss_cons (ss_ret (t_join c (t_ex (t_str)) (t_ex (t_comp c [(("line" : Str), 4)] (t_iseq c (t_var c (by decide +kernel))) (by decide +kernel) (by decide +kernel) (fun _ d1 => t_gnm d1 (by decide +kernel)) (fun _ d1 => st_nil) (fun _ d1 => so_bin or_add (t_sl d1 (by decide +kernel)) (t_ex (t_gstr d1 z.c_END (by decide +kernel)))) (fun _ _ => rfl))) rfl rfl rfl))
    (sss_nil)))
theorem ok_text_of_games {P : Program} {w : World} {base : Heap} {G : Gv} (z : Fx G) : FnG P w base G 1 "text_of_games" 1 F_text_of_games :=
  t_def (N := [("games" : Str), ("lines" : Str), ("one" : Str), ("two" : Str), ("line" : Str)]) (ps := [("games" : Str)]) z.d_text_of_games ⟨rfl, rfl, rfl, by decide +kernel, rfl, by decide +kernel, by decide +kernel⟩ z.g_text_of_games (fun _ _ _ _ _ _ us hl => match us, hl with | [_], _ => rfl) fun X c => bd_text_of_games z X c
/-! win_in -/
def b_win_in : SW := sSeq (sSet 1 (oMeth (lift2 pSplit) (.sl 0) [.ex (oC (.str (" " : Str)))])) (sSeq (sRet (oIf (tAndW (tOf (oPrim (lift2 (pEq false)) [.ex (oPrim (lift1 pLen) [.sl 1]), .ex (oC (.int 3))])) (tOf (oPrim (lift2 (pEq false)) [.ex (oPrim (lift2 pIx) [.sl 1, .ex (oC (.int 1))]), .ex (oC (.str ("beat" : Str)))]))) (oCall 1 F_numbers_in [oLst [oPrim (lift2 pIx) [.sl 1, .ex (oC (.int 0))], oPrim (lift2 pIx) [.sl 1, .ex (oC (.int 2))]]]) (oLst []))) (sNext))
def F_win_in : FW := fnW 2 b_win_in
theorem bd_win_in {P : Program} {w : World} {base : Heap} {G : Gv} (z : Fx G) (X : Cx) (c : CT X P w base G 2 [("line" : Str), ("words" : Str)] (defScope (top 35)) (defScope (top 35))) : SSs X G (defBody (top 35)) b_win_in :=
  sss_cons (t_set c (by decide +kernel) (t_split c (t_sl c (by decide +kernel)) (t_ex (t_gstr c z.c_BLANK (by decide +kernel))) rfl rfl rfl) rfl)
    (sss_cons (ss_ret (so_if (PW.pt (sw_and (sv_cmp (or_eq c.cx) (t_ex (t_len c z.f_len (by decide +kernel) (t_ocons (t_sl c (by decide +kernel)) rfl t_onil) rfl)) (t_ex (t_int)) rfl) (sw_and1 (sv_cmp (or_eq c.cx) (t_ex (so_ix (ir_ix c.cx) (fun _ _ => rfl) (t_sl c (by decide +kernel)) (t_ex (t_int)))) (t_ex (t_gstr c z.c_BEAT_WORD (by decide +kernel))) rfl)))) (t_call c (ok_numbers_in z) (by decide) (by decide +kernel) (t_acons (so_lst (by decide) (t_acons (so_ix (ir_ix c.cx) (fun _ _ => rfl) (t_sl c (by decide +kernel)) (t_ex (t_int))) rfl (t_acons (so_ix (ir_ix c.cx) (fun _ _ => rfl) (t_sl c (by decide +kernel)) (t_ex (t_int))) rfl t_anil))) rfl t_anil) rfl) (so_lst (by decide) t_anil)))
    (sss_nil))
theorem ok_win_in {P : Program} {w : World} {base : Heap} {G : Gv} (z : Fx G) : FnG P w base G 3 "win_in" 1 F_win_in :=
  t_def (N := [("line" : Str), ("words" : Str)]) (ps := [("line" : Str)]) z.d_win_in ⟨rfl, rfl, rfl, by decide +kernel, rfl, by decide +kernel, by decide +kernel⟩ z.g_win_in (fun _ _ _ _ _ _ us hl => match us, hl with | [_], _ => rfl) fun X c => bd_win_in z X c
/-! many_in -/
def b_many_in : SW := sSeq (sSet 1 (oMeth (lift2 pSplit) (.sl 0) [.ex (oC (.str (" " : Str)))])) (sSeq (sIf (tOrW (tOf (oPrim (lift2 (pEq true)) [.ex (oPrim (lift1 pLen) [.sl 1]), .ex (oC (.int 2))])) (tOf (oPrim (lift2 (pEq true)) [.ex (oPrim (lift2 pIx) [.sl 1, .ex (oC (.int 0))]), .ex (oC (.str ("players" : Str)))]))) (sSeq (sRet (oLst [])) (sNext)) (sNext)) (sSeq (sRet (oComp2 [2, 3] [3] (iSeq (oCall 1 F_numbers_in [oSl (.sl 1) (some (oC (.int 1))) none])) (gNm 2) (tTrue) (iSeq (oVar 2)) (gNm 3) (tTrue) (oVar 3))) (sNext)))
def F_many_in : FW := fnW 4 b_many_in
theorem bd_many_in {P : Program} {w : World} {base : Heap} {G : Gv} (z : Fx G) (X : Cx) (c : CT X P w base G 2 [("line" : Str), ("words" : Str), ("numbers" : Str), ("number" : Str)] (defScope (top 36)) (defScope (top 36))) : SSs X G (defBody (top 36)) b_many_in :=
  sss_cons (t_set c (by decide +kernel) (t_split c (t_sl c (by decide +kernel)) (t_ex (t_gstr c z.c_BLANK (by decide +kernel))) rfl rfl rfl) rfl)
    (sss_cons (ss_if (PW.pt (sw_or (sv_cmp (or_ne c.cx) (t_ex (t_len c z.f_len (by decide +kernel) (t_ocons (t_sl c (by decide +kernel)) rfl t_onil) rfl)) (t_ex (t_int)) rfl) (sw_or1 (sv_cmp (or_ne c.cx) (t_ex (so_ix (ir_ix c.cx) (fun _ _ => rfl) (t_sl c (by decide +kernel)) (t_ex (t_int)))) (t_ex (t_gstr c z.c_PLAYERS_WORD (by decide +kernel))) rfl)))) (sss_cons (ss_ret (so_lst (by decide) t_anil))
    (sss_nil)) (sss_nil))
    (sss_cons (ss_ret (t_comp2 c [(("numbers" : Str), 2), (("number" : Str), 3)] [3] (t_iseq c (t_call c (ok_numbers_in z) (by decide) (by decide +kernel) (t_acons (so_sl c.cx (t_sl c (by decide +kernel)) (po_s (t_int)) po_n) rfl t_anil) rfl)) (by decide +kernel) (by decide +kernel) (by decide +kernel) (by decide +kernel) (fun _ d1 => t_gnm d1 (by decide +kernel)) (fun _ d1 => st_nil) (fun _ d1 => t_iseq d1 (t_var d1 (by decide +kernel))) (fun _ d1 => t_gnm d1 (by decide +kernel)) (fun _ d1 => st_nil) (fun _ d1 => t_var d1 (by decide +kernel)) (fun _ _ => rfl) (fun _ _ => rfl)))
    (sss_nil)))
theorem ok_many_in {P : Program} {w : World} {base : Heap} {G : Gv} (z : Fx G) : FnG P w base G 3 "many_in" 1 F_many_in :=
  t_def (N := [("line" : Str), ("words" : Str), ("numbers" : Str), ("number" : Str)]) (ps := [("line" : Str)]) z.d_many_in ⟨rfl, rfl, rfl, by decide +kernel, rfl, by decide +kernel, by decide +kernel⟩ z.g_many_in (fun _ _ _ _ _ _ us hl => match us, hl with | [_], _ => rfl) fun X c => bd_many_in z X c
/-! games_with_text -/
def b_games_with_text : SW := sSeq (sIf (tNotW (tTru (.ex (oMeth (lift2 pEnds) (.sl 0) [.ex (oC (.str ("\n" : Str)))])))) (sSeq (sRet (oLst [])) (sNext)) (sNext)) (sSeq (sSet 1 (oMeth (lift2 pSplit) (.ex (oSl (.sl 0) none (some (oPrim (lift1 pNeg) [.ex (oC (.int 1))])))) [.ex (oC (.str ("\n" : Str)))])) (sSeq (sSet 2 (oComp2 [3, 4] [4] (iSeq (oSl (.sl 1) (some (oC (.int 1))) none)) (gNm 3) (tTrue) (iSeq (oCall 1 F_win_in [oVar 3])) (gNm 4) (tTrue) (oVar 4))) (sSeq (sIf (tOf (oPrim (lift2 (pEq true)) [.ex (oPrim (lift1 pLen) [.sl 2]), .ex (oPrim (lift2 pSub) [.ex (oPrim (lift1 pLen) [.sl 1]), .ex (oC (.int 1))])])) (sSeq (sRet (oLst [])) (sNext)) (sNext)) (sSeq (sRet (oComp [5] (iSeq (oCall 1 F_many_in [oPrim (lift2 pIx) [.sl 1, .ex (oC (.int 0))]])) (gNm 5) (tTru (.ex (oCall 1 F_are_games_by [oTup [oVar 5, oPrim (lift1 pTuple) [.sl 2]]]))) (oTup [oVar 5, oPrim (lift1 pTuple) [.sl 2]]))) (sNext)))))
def F_games_with_text : FW := fnW 6 b_games_with_text
theorem bd_games_with_text {P : Program} {w : World} {base : Heap} {G : Gv} (z : Fx G) (X : Cx) (c : CT X P w base G 5 [("text" : Str), ("lines" : Str), ("wins" : Str), ("line" : Str), ("pair" : Str), ("many" : Str)] (defScope (top 37)) (defScope (top 37))) : SSs X G (defBody (top 37)) b_games_with_text :=
  sss_cons (ss_if (sv_not (sv_tru c.cx (t_ex (t_ends c (t_sl c (by decide +kernel)) (t_ex (t_gstr c z.c_END (by decide +kernel))) rfl rfl rfl)) (fun _ => rfl))) (sss_cons (ss_ret (so_lst (by decide) t_anil))
    (sss_nil)) (sss_nil))
    (sss_cons (t_set c (by decide +kernel) (t_split c (t_ex (so_sl c.cx (t_sl c (by decide +kernel)) po_n (po_s (so_un un_negP (t_ex (t_int)))))) (t_ex (t_gstr c z.c_END (by decide +kernel))) rfl rfl rfl) rfl)
    (sss_cons (t_setC c (by decide +kernel) (t_comp2 c [(("line" : Str), 3), (("pair" : Str), 4)] [4] (t_iseq c (so_sl c.cx (t_sl c (by decide +kernel)) (po_s (t_int)) po_n)) (by decide +kernel) (by decide +kernel) (by decide +kernel) (by decide +kernel) (fun _ d1 => t_gnm d1 (by decide +kernel)) (fun _ d1 => st_nil) (fun _ d1 => t_iseq d1 (t_call d1 (ok_win_in z) (by decide) (by decide +kernel) (t_acons (t_var d1 (by decide +kernel)) rfl t_anil) rfl)) (fun _ d1 => t_gnm d1 (by decide +kernel)) (fun _ d1 => st_nil) (fun _ d1 => t_var d1 (by decide +kernel)) (fun _ _ => rfl) (fun _ _ => rfl)) (fun _ => rfl))
    (sss_cons (ss_if (sv_cmp (or_ne c.cx) (t_ex (t_len c z.f_len (by decide +kernel) (t_ocons (t_sl c (by decide +kernel)) rfl t_onil) rfl)) (t_ex (so_bin or_sub (t_ex (t_len c z.f_len (by decide +kernel) (t_ocons (t_sl c (by decide +kernel)) rfl t_onil) rfl)) (t_ex (t_int)))) rfl) (sss_cons (ss_ret (so_lst (by decide) t_anil))
    (sss_nil)) (sss_nil))
    (sss_cons (ss_ret (t_comp c [(("many" : Str), 5)] (t_iseq c (t_call c (ok_many_in z) (by decide) (by decide +kernel) (t_acons (so_ix (ir_ix c.cx) (fun _ _ => rfl) (t_sl c (by decide +kernel)) (t_ex (t_int))) rfl t_anil) rfl)) (by decide +kernel) (by decide +kernel) (fun _ d1 => t_gnm d1 (by decide +kernel)) (fun _ d1 => st_one (sv_tru d1.cx (t_ex (t_call d1 (ok_are_games_by z) (by decide) (by decide +kernel) (t_acons (so_tup (by decide) (t_acons (t_var d1 (by decide +kernel)) rfl (t_acons (t_tuple_ d1 z.f_tuple (by decide +kernel) (t_ocons (t_sl d1 (by decide +kernel)) rfl t_onil) rfl) rfl t_anil))) rfl t_anil) rfl)) (fun _ => rfl))) (fun _ d1 => so_tup (by decide) (t_acons (t_var d1 (by decide +kernel)) rfl (t_acons (t_tuple_ d1 z.f_tuple (by decide +kernel) (t_ocons (t_sl d1 (by decide +kernel)) rfl t_onil) rfl) rfl t_anil))) (fun _ _ => rfl)))
    (sss_nil)))))
theorem ok_games_with_text {P : Program} {w : World} {base : Heap} {G : Gv} (z : Fx G) : FnG P w base G 6 "games_with_text" 1 F_games_with_text :=
  t_def (N := [("text" : Str), ("lines" : Str), ("wins" : Str), ("line" : Str), ("pair" : Str), ("many" : Str)]) (ps := [("text" : Str)]) z.d_games_with_text ⟨rfl, rfl, rfl, by decide +kernel, rfl, by decide +kernel, by decide +kernel⟩ z.g_games_with_text (fun _ _ _ _ _ _ us hl => match us, hl with | [_], _ => rfl) fun X c => bd_games_with_text z X c
/-! games_text -/
def b_games_text : SW := sSeq (sDrop (oCall 1 F_check_games [oVar 0])) (sSeq (sRet (oCall 1 F_text_of_games [oVar 0])) (sNext))
def F_games_text : FW := fnW 1 b_games_text
theorem bd_games_text {P : Program} {w : World} {base : Heap} {G : Gv} (z : Fx G) (X : Cx) (c : CT X P w base G 6 [("games" : Str)] (defScope (top 39)) (defScope (top 39))) : SSs X G (defBody (top 39)) b_games_text :=
  sss_cons (ss_drop (t_call c (ok_check_games z) (by decide) (by decide +kernel) (t_acons (t_var c (by decide +kernel)) rfl t_anil) rfl) rfl)
    (sss_cons (ss_ret (t_call c (ok_text_of_games z) (by decide) (by decide +kernel) (t_acons (t_var c (by decide +kernel)) rfl t_anil) rfl))
    (sss_nil))
theorem ok_games_text {P : Program} {w : World} {base : Heap} {G : Gv} (z : Fx G) : FnG P w base G 7 "games_text" 1 F_games_text :=
  t_def (N := [("games" : Str)]) (ps := [("games" : Str)]) z.d_games_text ⟨rfl, rfl, rfl, by decide +kernel, rfl, by decide +kernel, by decide +kernel⟩ z.g_games_text (fun _ _ _ _ _ _ us hl => match us, hl with | [_], _ => rfl) fun X c => bd_games_text z X c
/-! read_games -/
def b_read_games : SW := sSeq (sSet 1 (oIf (tTru (.ex (oPrim (lift2 pIsi) [.sl 0, .ex (oC (.ty "str"))]))) (oCall 1 F_games_with_text [oVar 0]) (oLst []))) (sSeq (sIf (tOf (oPrim (lift2 (pEq false)) [.sl 1, .ex (oLst [])])) (sSeq (sNever) (sNext)) (sNext)) (sSeq (sRet (oPrim (lift2 pIx) [.sl 1, .ex (oC (.int 0))])) (sNext)))
def F_read_games : FW := fnW 2 b_read_games
theorem bd_read_games {P : Program} {w : World} {base : Heap} {G : Gv} (z : Fx G) (X : Cx) (c : CT X P w base G 6 [("text" : Str), ("found" : Str)] (defScope (top 40)) (defScope (top 40))) : SSs X G (defBody (top 40)) b_read_games :=
  sss_cons (t_set c (by decide +kernel) (so_if (sv_tru c.cx (t_ex (t_isi c z.f_isinstance (by decide +kernel) (t_ocons (t_sl c (by decide +kernel)) rfl (t_ocons (t_ex (t_ty c z.f_str (by decide +kernel) boot_str (by decide))) rfl t_onil)) rfl)) (fun _ => rfl)) (t_call c (ok_games_with_text z) (by decide) (by decide +kernel) (t_acons (t_var c (by decide +kernel)) rfl t_anil) rfl) (so_lst (by decide) t_anil)) rfl)
    (sss_cons (ss_if (sv_cmp (or_eq c.cx) (t_sl c (by decide +kernel)) (t_ex (so_lst (by decide) t_anil)) rfl) (sss_cons (ss_never)
    (sss_nil)) (sss_nil))
    (sss_cons (ss_ret (so_ix (ir_ix c.cx) (fun _ _ => rfl) (t_sl c (by decide +kernel)) (t_ex (t_int))))
    (sss_nil)))
theorem ok_read_games {P : Program} {w : World} {base : Heap} {G : Gv} (z : Fx G) : FnG P w base G 7 "read_games" 1 F_read_games :=
  t_def (N := [("text" : Str), ("found" : Str)]) (ps := [("text" : Str)]) z.d_read_games ⟨rfl, rfl, rfl, by decide +kernel, rfl, by decide +kernel, by decide +kernel⟩ z.g_read_games (fun _ _ _ _ _ _ us hl => match us, hl with | [_], _ => rfl) fun X c => bd_read_games z X c
/-! list_text -/
def b_list_text : SW := sSeq (sDrop (oCall 1 F_check_numbers [oVar 0])) (sSeq (sRet (oCall 1 F_text_of_numbers [oVar 0])) (sNext))
def F_list_text : FW := fnW 1 b_list_text
theorem bd_list_text {P : Program} {w : World} {base : Heap} {G : Gv} (z : Fx G) (X : Cx) (c : CT X P w base G 4 [("numbers" : Str)] (defScope (top 41)) (defScope (top 41))) : SSs X G (defBody (top 41)) b_list_text :=
  sss_cons (ss_drop (t_call c (ok_check_numbers z) (by decide) (by decide +kernel) (t_acons (t_var c (by decide +kernel)) rfl t_anil) rfl) rfl)
    (sss_cons (ss_ret (t_call c (ok_text_of_numbers z) (by decide) (by decide +kernel) (t_acons (t_var c (by decide +kernel)) rfl t_anil) rfl))
    (sss_nil))
theorem ok_list_text {P : Program} {w : World} {base : Heap} {G : Gv} (z : Fx G) : FnG P w base G 5 "list_text" 1 F_list_text :=
  t_def (N := [("numbers" : Str)]) (ps := [("numbers" : Str)]) z.d_list_text ⟨rfl, rfl, rfl, by decide +kernel, rfl, by decide +kernel, by decide +kernel⟩ z.g_list_text (fun _ _ _ _ _ _ us hl => match us, hl with | [_], _ => rfl) fun X c => bd_list_text z X c
/-! read_list -/
def b_read_list : SW := sSeq (sSet 1 (oIf (tTru (.ex (oPrim (lift2 pIsi) [.sl 0, .ex (oC (.ty "str"))]))) (oCall 1 F_list_with_text [oVar 0]) (oLst []))) (sSeq (sIf (tOf (oPrim (lift2 (pEq false)) [.sl 1, .ex (oLst [])])) (sSeq (sNever) (sNext)) (sNext)) (sSeq (sRet (oPrim (lift2 pIx) [.sl 1, .ex (oC (.int 0))])) (sNext)))
def F_read_list : FW := fnW 2 b_read_list
theorem bd_read_list {P : Program} {w : World} {base : Heap} {G : Gv} (z : Fx G) (X : Cx) (c : CT X P w base G 3 [("text" : Str), ("found" : Str)] (defScope (top 42)) (defScope (top 42))) : SSs X G (defBody (top 42)) b_read_list :=
  sss_cons (t_set c (by decide +kernel) (so_if (sv_tru c.cx (t_ex (t_isi c z.f_isinstance (by decide +kernel) (t_ocons (t_sl c (by decide +kernel)) rfl (t_ocons (t_ex (t_ty c z.f_str (by decide +kernel) boot_str (by decide))) rfl t_onil)) rfl)) (fun _ => rfl)) (t_call c (ok_list_with_text z) (by decide) (by decide +kernel) (t_acons (t_var c (by decide +kernel)) rfl t_anil) rfl) (so_lst (by decide) t_anil)) rfl)
    (sss_cons (ss_if (sv_cmp (or_eq c.cx) (t_sl c (by decide +kernel)) (t_ex (so_lst (by decide) t_anil)) rfl) (sss_cons (ss_never)
    (sss_nil)) (sss_nil))
    (sss_cons (ss_ret (so_ix (ir_ix c.cx) (fun _ _ => rfl) (t_sl c (by decide +kernel)) (t_ex (t_int))))
    (sss_nil)))
theorem ok_read_list {P : Program} {w : World} {base : Heap} {G : Gv} (z : Fx G) : FnG P w base G 4 "read_list" 1 F_read_list :=
  t_def (N := [("text" : Str), ("found" : Str)]) (ps := [("text" : Str)]) z.d_read_list ⟨rfl, rfl, rfl, by decide +kernel, rfl, by decide +kernel, by decide +kernel⟩ z.g_read_list (fun _ _ _ _ _ _ us hl => match us, hl with | [_], _ => rfl) fun X c => bd_read_list z X c
/-! points -/
def b_points : SW := sSeq (sDrop (oCall 1 F_check_games [oVar 0])) (sSeq (sRet (oCall 1 F_points_by [oVar 0])) (sNext))
def F_points : FW := fnW 1 b_points
theorem bd_points {P : Program} {w : World} {base : Heap} {G : Gv} (z : Fx G) (X : Cx) (c : CT X P w base G 6 [("games" : Str)] (defScope (top 44)) (defScope (top 44))) : SSs X G (defBody (top 44)) b_points :=
  sss_cons (ss_drop (t_call c (ok_check_games z) (by decide) (by decide +kernel) (t_acons (t_var c (by decide +kernel)) rfl t_anil) rfl) rfl)
    (sss_cons (ss_ret (t_call c (ok_points_by z) (by decide) (by decide +kernel) (t_acons (t_var c (by decide +kernel)) rfl t_anil) rfl))
    (sss_nil))
theorem ok_points {P : Program} {w : World} {base : Heap} {G : Gv} (z : Fx G) : FnG P w base G 7 "points" 1 F_points :=
  t_def (N := [("games" : Str)]) (ps := [("games" : Str)]) z.d_points ⟨rfl, rfl, rfl, by decide +kernel, rfl, by decide +kernel, by decide +kernel⟩ z.g_points (fun _ _ _ _ _ _ us hl => match us, hl with | [_], _ => rfl) fun X c => bd_points z X c
/-! _law_well -/
def b__law_well : SW := sSeq (sSet 2 (oIf (tOf (oPrim (lift2 pLt) [.sl 1, .ex (oPrim (lift1 pLen) [.sl 0])])) (oPrim (lift1 pInt) [.ex (oPrim (lift2 pIx) [.sl 0, .sl 1])]) (oC (.int 0)))) (sSeq (sSet 3 (oPrim (lift2 pAdd) [.ex (oC (.int 52027)), .ex (oPrim (lift2 pMul) [.ex (oC (.int 6971)), .sl 1])])) (sSeq (sFor (iSeq (oPrim (lift2 pAdd) [.ex (oSl (.sl 0) none (some (oC (.int 8)))), .ex (oLst [oVar 2])])) (gNm 4) (sSeq (sSet 3 (oPrim (lift2 pMod) [.ex (oPrim (lift1 pInt) [.ex (oPrim (lift2 pAdd) [.ex (oPrim (lift2 pAdd) [.ex (oPrim (lift2 pMul) [.sl 3, .ex (oC (.int 44497))]), .ex (oPrim (lift2 pMod) [.ex (oPrim (lift1 pInt) [.sl 4]), .ex (oC (.int 2147483587))])]), .ex (oC (.int 29))])]), .ex (oC (.int 2147483563))])) (sNext))) (sSeq (sRet (oLst [oIf (tOrW (tOf (oPrim (lift2 pLt) [.sl 2, .ex (oC (.int 0))])) (tOf (oPrim (lift2 pGe) [.sl 2, .ex (oPrim (lift2 pPow) [.ex (oC (.int 10)), .ex (oC (.int 18))])]))) (oPrim (lift1 pAbs) [.sl 2]) (oC (.int 0)), oVar 3, oC (.int 0)])) (sNext))))
def F__law_well : FW := fnW 5 b__law_well
theorem bd__law_well {P : Program} {w : World} {base : Heap} {G : Gv} (z : Fx G) (X : Cx) (c : CT X P w base G 0 [("script" : Str), ("lap" : Str), ("own" : Str), ("stir" : Str), ("each" : Str)] (defScope (top 46)) (defScope (top 46))) : SSs X G (defBody (top 46)) b__law_well :=
  sss_cons (t_set c (by decide +kernel) (so_if (sv_cmp (or_lt c.cx) (t_sl c (by decide +kernel)) (t_ex (t_len c z.f_len (by decide +kernel) (t_ocons (t_sl c (by decide +kernel)) rfl t_onil) rfl)) rfl) (t_int_ c z.f_int (by decide +kernel) (t_ocons (t_ex (so_ix (ir_ix c.cx) (fun _ _ => rfl) (t_sl c (by decide +kernel)) (t_sl c (by decide +kernel)))) rfl t_onil) rfl) (t_int)) rfl)
    (sss_cons (t_set c (by decide +kernel) (so_bin or_add (t_ex (t_int)) (t_ex (so_bin or_mul (t_ex (t_int)) (t_sl c (by decide +kernel))))) rfl)
    (sss_cons (ss_for c.cx (t_iseq c (so_bin or_add (t_ex (so_sl c.cx (t_sl c (by decide +kernel)) po_n (po_s (t_int)))) (t_ex (so_lst (by decide) (t_acons (t_var c (by decide +kernel)) rfl t_anil))))) (t_gnm c (by decide +kernel)) (sss_cons (t_set c (by decide +kernel) (so_bin or_mod (t_ex (t_int_ c z.f_int (by decide +kernel) (t_ocons (t_ex (so_bin or_add (t_ex (so_bin or_add (t_ex (so_bin or_mul (t_sl c (by decide +kernel)) (t_ex (t_int)))) (t_ex (so_bin or_mod (t_ex (t_int_ c z.f_int (by decide +kernel) (t_ocons (t_sl c (by decide +kernel)) rfl t_onil) rfl)) (t_ex (t_int)))))) (t_ex (t_int)))) rfl t_onil) rfl)) (t_ex (t_int))) rfl)
    (sss_nil)) (fun _ => rfl))
    (sss_cons (ss_ret (so_lst (by decide) (t_acons (so_if (PW.pt (sw_or (sv_cmp (or_lt c.cx) (t_sl c (by decide +kernel)) (t_ex (t_int)) rfl) (sw_or1 (sv_cmp or_ge (t_sl c (by decide +kernel)) (t_ex (so_bin or_pow (t_ex (t_int)) (t_ex (t_int)))) rfl)))) (t_abs c z.f_abs (by decide +kernel) (t_ocons (t_sl c (by decide +kernel)) rfl t_onil) rfl) (t_int)) rfl (t_acons (t_var c (by decide +kernel)) rfl (t_acons (t_int) rfl t_anil)))))
    (sss_nil))))
theorem ok__law_well {P : Program} {w : World} {base : Heap} {G : Gv} (z : Fx G) : FnG P w base G 1 "_law_well" 2 F__law_well :=
  t_def (N := [("script" : Str), ("lap" : Str), ("own" : Str), ("stir" : Str), ("each" : Str)]) (ps := [("script" : Str), ("lap" : Str)]) z.d__law_well ⟨rfl, rfl, rfl, by decide +kernel, rfl, by decide +kernel, by decide +kernel⟩ z.g__law_well (fun _ _ _ _ _ _ us hl => match us, hl with | [_, _], _ => rfl) fun X c => bd__law_well z X c
def S__law_well : FW := wellOf F__law_well
theorem s__law_well {P : Program} {w : World} {base : Heap} {G : Gv} (z : Fx G) : FnG P w base G 1 "_law_well" 2 S__law_well := (ok__law_well z).well
/-! _law_take -/
def b__law_take : SW := sSeq (sIf (tOf (oPrim (lift2 pGt) [.ex (oPrim (lift2 pIx) [.sl 0, .ex (oC (.int 0))]), .ex (oC (.int 0))])) (sSeq (sTgt (gTup [gPutW 0 0, gNm 2]) (oPrim (lift2 pDivmod) [.ex (oPrim (lift2 pIx) [.sl 0, .ex (oC (.int 0))]), .sl 1])) (sSeq (sRetV 2) (sNext))) (sNext)) (sSeq (sTgt (gPutW 0 2) (oPrim (lift2 pAdd) [.ex (oPrim (lift2 pIx) [.sl 0, .ex (oC (.int 2))]), .ex (oC (.int 1))])) (sSeq (sTgt (gPutW 0 1) (oPrim (lift2 pMod) [.ex (oPrim (lift1 pInt) [.ex (oPrim (lift2 pAdd) [.ex (oPrim (lift2 pAdd) [.ex (oPrim (lift2 pMul) [.ex (oPrim (lift2 pIx) [.sl 0, .ex (oC (.int 1))]), .ex (oC (.int 39373))]), .ex (oPrim (lift2 pMul) [.ex (oPrim (lift2 pIx) [.sl 0, .ex (oC (.int 2))]), .ex (oC (.int 30323))])]), .ex (oC (.int 11))])]), .ex (oC (.int 2147483543))])) (sSeq (sRet (oPrim (lift2 pMod) [.ex (oPrim (lift1 pInt) [.ex (oPrim (lift2 pFdiv) [.ex (oPrim (lift2 pIx) [.sl 0, .ex (oC (.int 1))]), .ex (oC (.int 128))])]), .sl 1])) (sNext))))
def F__law_take : FW := fnW 3 b__law_take
theorem bd__law_take {P : Program} {w : World} {base : Heap} {G : Gv} (z : Fx G) (X : Cx) (c : CT X P w base G 0 [("well" : Str), ("many" : Str), ("digit" : Str)] (defScope (top 47)) (defScope (top 47))) : SSs X G (defBody (top 47)) b__law_take :=
  sss_cons (ss_if (sv_cmp or_gt (t_ex (so_ix (ir_ix c.cx) (fun _ _ => rfl) (t_sl c (by decide +kernel)) (t_ex (t_int)))) (t_ex (t_int)) rfl) (sss_cons (t_tgt c (t_divmod c z.f_divmod (by decide +kernel) (t_ocons (t_ex (so_ix (ir_ix c.cx) (fun _ _ => rfl) (t_sl c (by decide +kernel)) (t_ex (t_int)))) rfl (t_ocons (t_sl c (by decide +kernel)) rfl t_onil)) rfl) (t_gtup c (sgs_cons (t_gputW c (by decide +kernel)) (sgs_cons (t_gnm c (by decide +kernel)) sgs_nil rfl) rfl) rfl rfl) rfl rfl (fun _ => rfl))
    (sss_cons (ss_retV (t_pv c (by decide +kernel)))
    (sss_nil))) (sss_nil))
    (sss_cons (t_tgt c (so_bin or_add (t_ex (so_ix (ir_ix c.cx) (fun _ _ => rfl) (t_sl c (by decide +kernel)) (t_ex (t_int)))) (t_ex (t_int))) (t_gputW c (by decide +kernel)) rfl rfl (fun _ => rfl))
    (sss_cons (t_tgt c (so_bin or_mod (t_ex (t_int_ c z.f_int (by decide +kernel) (t_ocons (t_ex (so_bin or_add (t_ex (so_bin or_add (t_ex (so_bin or_mul (t_ex (so_ix (ir_ix c.cx) (fun _ _ => rfl) (t_sl c (by decide +kernel)) (t_ex (t_int)))) (t_ex (t_int)))) (t_ex (so_bin or_mul (t_ex (so_ix (ir_ix c.cx) (fun _ _ => rfl) (t_sl c (by decide +kernel)) (t_ex (t_int)))) (t_ex (t_int)))))) (t_ex (t_int)))) rfl t_onil) rfl)) (t_ex (t_int))) (t_gputW c (by decide +kernel)) rfl rfl (fun _ => rfl))
    (sss_cons (ss_ret (so_bin or_mod (t_ex (t_int_ c z.f_int (by decide +kernel) (t_ocons (t_ex (so_bin or_fdiv (t_ex (so_ix (ir_ix c.cx) (fun _ _ => rfl) (t_sl c (by decide +kernel)) (t_ex (t_int)))) (t_ex (t_int)))) rfl t_onil) rfl)) (t_sl c (by decide +kernel))))
    (sss_nil))))
theorem ok__law_take {P : Program} {w : World} {base : Heap} {G : Gv} (z : Fx G) : FnG P w base G 1 "_law_take" 2 F__law_take :=
  t_def (N := [("well" : Str), ("many" : Str), ("digit" : Str)]) (ps := [("well" : Str), ("many" : Str)]) z.d__law_take ⟨rfl, rfl, rfl, by decide +kernel, rfl, by decide +kernel, by decide +kernel⟩ z.g__law_take (fun _ _ _ _ _ _ us hl => match us, hl with | [_, _], _ => rfl) fun X c => bd__law_take z X c
/-! _law_same -/
def b__law_same (R : FW) : SW := sSeq (sIf (tOrW (tAndW (tTru (.ex (oPrim (lift2 pIsi) [.sl 1, .ex (oC (.ty "tuple"))]))) (tNotW (tTru (.ex (oPrim (lift2 pIsi) [.sl 0, .ex (oC (.ty "tuple"))]))))) (tAndW (tTru (.ex (oPrim (lift2 pIsi) [.sl 1, .ex (oC (.ty "list"))]))) (tNotW (tTru (.ex (oPrim (lift2 pIsi) [.sl 0, .ex (oC (.ty "list"))])))))) (sSeq (sRet (oC (.bl false))) (sNext)) (sNext)) (sSeq (sIf (tTru (.ex (oPrim (lift2 pIsi) [.sl 1, .ex (oTup [oC (.ty "tuple"), oC (.ty "list")])]))) (sSeq (sRet (oAnd (oPrim (lift2 (pEq false)) [.ex (oPrim (lift1 pLen) [.sl 0]), .ex (oPrim (lift1 pLen) [.sl 1])]) (oPrim (lift1 pAll) [.ex (oComp [2] (iRange1 (oPrim (lift1 pLen) [.sl 1])) (gNm 2) (tTrue) (oCall 2 R [oPrim (lift2 pIx) [.sl 0, .sl 2], oPrim (lift2 pIx) [.sl 1, .sl 2]]))]))) (sNext)) (sNext)) (sSeq (sIf (tOrW (tOf (oPrim (lift2 (pIs false)) [.sl 1, .ex (oC .non)])) (tOf (oPrim (lift2 (pIs false)) [.sl 0, .ex (oC .non)]))) (sSeq (sRet (oAnd (oPrim (lift2 (pIs false)) [.sl 1, .ex (oC .non)]) (oPrim (lift2 (pIs false)) [.sl 0, .ex (oC .non)]))) (sNext)) (sNext)) (sSeq (sIf (tOrW (tTru (.ex (oPrim (lift2 pIsi) [.sl 1, .ex (oC (.ty "bool"))]))) (tTru (.ex (oPrim (lift2 pIsi) [.sl 0, .ex (oC (.ty "bool"))])))) (sSeq (sRet (oAnd (oPrim (lift2 pIsi) [.sl 1, .ex (oC (.ty "bool"))]) (oAnd (oPrim (lift2 pIsi) [.sl 0, .ex (oC (.ty "bool"))]) (oPrim (lift2 (pEq false)) [.sl 1, .sl 0])))) (sNext)) (sNext)) (sSeq (sIf (tTru (.ex (oPrim (lift2 pIsi) [.sl 1, .ex (oC (.ty "int"))]))) (sSeq (sRet (oAnd (oPrim (lift2 pIsi) [.sl 0, .ex (oC (.ty "int"))]) (oPrim (lift2 (pEq false)) [.sl 0, .sl 1]))) (sNext)) (sNext)) (sSeq (sIf (tTru (.ex (oPrim (lift2 pIsi) [.sl 1, .ex (oC (.ty "str"))]))) (sSeq (sRet (oAnd (oPrim (lift2 pIsi) [.sl 0, .ex (oC (.ty "str"))]) (oPrim (lift2 (pEq false)) [.sl 0, .sl 1]))) (sNext)) (sNext)) (sSeq (sRet (oAnd (oPrim (lift2 pIsi) [.sl 1, .ex (oC (.ty "dict"))]) (oAnd (oPrim (lift2 pIsi) [.sl 0, .ex (oC (.ty "dict"))]) (oAnd (oPrim (lift2 (pEq false)) [.ex (oPrim (lift1 pLen) [.sl 0]), .ex (oPrim (lift1 pLen) [.sl 1])]) (oPrim (lift2 (pEq false)) [.sl 0, .sl 1]))))) (sNext)))))))
def F__law_same : Nat → FW
  | 0 => fun _ _ => False
  | n + 1 => fnW 3 (b__law_same (F__law_same n))
theorem bd__law_same {P : Program} {w : World} {base : Heap} {G : Gv} (z : Fx G) {k : Nat} {R : FW} (hk : 0 ≤ k) (r : FnG P w base G k "_law_same" 2 R) (X : Cx) (c : CT X P w base G k [("told" : Str), ("due" : Str), ("at" : Str)] (defScope (top 48)) (defScope (top 48))) : SSs X G (defBody (top 48)) (b__law_same R) :=
  sss_cons (ss_if (PW.pt (sw_or (PW.pt (sw_and (sv_tru c.cx (t_ex (t_isi c z.f_isinstance (by decide +kernel) (t_ocons (t_sl c (by decide +kernel)) rfl (t_ocons (t_ex (t_ty c z.f_tuple (by decide +kernel) boot_tuple (by decide))) rfl t_onil)) rfl)) (fun _ => rfl)) (sw_and1 (sv_not (sv_tru c.cx (t_ex (t_isi c z.f_isinstance (by decide +kernel) (t_ocons (t_sl c (by decide +kernel)) rfl (t_ocons (t_ex (t_ty c z.f_tuple (by decide +kernel) boot_tuple (by decide))) rfl t_onil)) rfl)) (fun _ => rfl)))))) (sw_or1 (PW.pt (sw_and (sv_tru c.cx (t_ex (t_isi c z.f_isinstance (by decide +kernel) (t_ocons (t_sl c (by decide +kernel)) rfl (t_ocons (t_ex (t_ty c z.f_list (by decide +kernel) boot_list (by decide))) rfl t_onil)) rfl)) (fun _ => rfl)) (sw_and1 (sv_not (sv_tru c.cx (t_ex (t_isi c z.f_isinstance (by decide +kernel) (t_ocons (t_sl c (by decide +kernel)) rfl (t_ocons (t_ex (t_ty c z.f_list (by decide +kernel) boot_list (by decide))) rfl t_onil)) rfl)) (fun _ => rfl))))))))) (sss_cons (ss_ret (t_bl))
    (sss_nil)) (sss_nil))
    (sss_cons (ss_if (sv_tru c.cx (t_ex (t_isi c z.f_isinstance (by decide +kernel) (t_ocons (t_sl c (by decide +kernel)) rfl (t_ocons (t_ex (so_tup (by decide) (t_acons (t_ty c z.f_tuple (by decide +kernel) boot_tuple (by decide)) rfl (t_acons (t_ty c z.f_list (by decide +kernel) boot_list (by decide)) rfl t_anil)))) rfl t_onil)) rfl)) (fun _ => rfl)) (sss_cons (ss_ret (so_and c.cx (so_cmp (or_eq c.cx) (t_ex (t_len c z.f_len (by decide +kernel) (t_ocons (t_sl c (by decide +kernel)) rfl t_onil) rfl)) (t_ex (t_len c z.f_len (by decide +kernel) (t_ocons (t_sl c (by decide +kernel)) rfl t_onil) rfl)) rfl) (so_one (t_all c z.f_all (by decide +kernel) (t_ocons (t_ex (t_comp c [(("at" : Str), 2)] (t_irange1 c z.f_range (by decide +kernel) (t_len c z.f_len (by decide +kernel) (t_ocons (t_sl c (by decide +kernel)) rfl t_onil) rfl) rfl) (by decide +kernel) (by decide +kernel) (fun _ d1 => t_gnm d1 (by decide +kernel)) (fun _ d1 => st_nil) (fun _ d1 => t_call d1 r (Nat.le_refl _) (by decide +kernel) (t_acons (so_ix (ir_ix d1.cx) (fun _ _ => rfl) (t_sl d1 (by decide +kernel)) (t_sl d1 (by decide +kernel))) rfl (t_acons (so_ix (ir_ix d1.cx) (fun _ _ => rfl) (t_sl d1 (by decide +kernel)) (t_sl d1 (by decide +kernel))) rfl t_anil)) rfl) (fun _ _ => rfl))) rfl t_onil) rfl))))
    (sss_nil)) (sss_nil))
    (sss_cons (ss_if (PW.pt (sw_or (sv_cmp or_is (t_sl c (by decide +kernel)) (t_ex (t_none)) rfl) (sw_or1 (sv_cmp or_is (t_sl c (by decide +kernel)) (t_ex (t_none)) rfl)))) (sss_cons (ss_ret (so_and c.cx (so_cmp or_is (t_sl c (by decide +kernel)) (t_ex (t_none)) rfl) (so_one (so_cmp or_is (t_sl c (by decide +kernel)) (t_ex (t_none)) rfl))))
    (sss_nil)) (sss_nil))
    (sss_cons (ss_if (PW.pt (sw_or (sv_tru c.cx (t_ex (t_isi c z.f_isinstance (by decide +kernel) (t_ocons (t_sl c (by decide +kernel)) rfl (t_ocons (t_ex (t_ty c z.f_bool (by decide +kernel) boot_bool (by decide))) rfl t_onil)) rfl)) (fun _ => rfl)) (sw_or1 (sv_tru c.cx (t_ex (t_isi c z.f_isinstance (by decide +kernel) (t_ocons (t_sl c (by decide +kernel)) rfl (t_ocons (t_ex (t_ty c z.f_bool (by decide +kernel) boot_bool (by decide))) rfl t_onil)) rfl)) (fun _ => rfl))))) (sss_cons (ss_ret (so_and c.cx (t_isi c z.f_isinstance (by decide +kernel) (t_ocons (t_sl c (by decide +kernel)) rfl (t_ocons (t_ex (t_ty c z.f_bool (by decide +kernel) boot_bool (by decide))) rfl t_onil)) rfl) (so_and c.cx (t_isi c z.f_isinstance (by decide +kernel) (t_ocons (t_sl c (by decide +kernel)) rfl (t_ocons (t_ex (t_ty c z.f_bool (by decide +kernel) boot_bool (by decide))) rfl t_onil)) rfl) (so_one (so_cmp (or_eq c.cx) (t_sl c (by decide +kernel)) (t_sl c (by decide +kernel)) rfl)))))
    (sss_nil)) (sss_nil))
    (sss_cons (ss_if (sv_tru c.cx (t_ex (t_isi c z.f_isinstance (by decide +kernel) (t_ocons (t_sl c (by decide +kernel)) rfl (t_ocons (t_ex (t_ty c z.f_int (by decide +kernel) boot_int (by decide))) rfl t_onil)) rfl)) (fun _ => rfl)) (sss_cons (ss_ret (so_and c.cx (t_isi c z.f_isinstance (by decide +kernel) (t_ocons (t_sl c (by decide +kernel)) rfl (t_ocons (t_ex (t_ty c z.f_int (by decide +kernel) boot_int (by decide))) rfl t_onil)) rfl) (so_one (so_cmp (or_eq c.cx) (t_sl c (by decide +kernel)) (t_sl c (by decide +kernel)) rfl))))
    (sss_nil)) (sss_nil))
    (sss_cons (ss_if (sv_tru c.cx (t_ex (t_isi c z.f_isinstance (by decide +kernel) (t_ocons (t_sl c (by decide +kernel)) rfl (t_ocons (t_ex (t_ty c z.f_str (by decide +kernel) boot_str (by decide))) rfl t_onil)) rfl)) (fun _ => rfl)) (sss_cons (ss_ret (so_and c.cx (t_isi c z.f_isinstance (by decide +kernel) (t_ocons (t_sl c (by decide +kernel)) rfl (t_ocons (t_ex (t_ty c z.f_str (by decide +kernel) boot_str (by decide))) rfl t_onil)) rfl) (so_one (so_cmp (or_eq c.cx) (t_sl c (by decide +kernel)) (t_sl c (by decide +kernel)) rfl))))
    (sss_nil)) (sss_nil))
    (sss_cons (ss_ret (so_and c.cx (t_isi c z.f_isinstance (by decide +kernel) (t_ocons (t_sl c (by decide +kernel)) rfl (t_ocons (t_ex (t_ty c z.f_dict (by decide +kernel) boot_dict (by decide))) rfl t_onil)) rfl) (so_and c.cx (t_isi c z.f_isinstance (by decide +kernel) (t_ocons (t_sl c (by decide +kernel)) rfl (t_ocons (t_ex (t_ty c z.f_dict (by decide +kernel) boot_dict (by decide))) rfl t_onil)) rfl) (so_and c.cx (so_cmp (or_eq c.cx) (t_ex (t_len c z.f_len (by decide +kernel) (t_ocons (t_sl c (by decide +kernel)) rfl t_onil) rfl)) (t_ex (t_len c z.f_len (by decide +kernel) (t_ocons (t_sl c (by decide +kernel)) rfl t_onil) rfl)) rfl) (so_one (so_cmp (or_eq c.cx) (t_sl c (by decide +kernel)) (t_sl c (by decide +kernel)) rfl))))))
    (sss_nil)))))))
theorem okn__law_same {P : Program} {w : World} {base : Heap} {G : Gv} (z : Fx G) : ∀ n, FnG P w base G (0 + n) "_law_same" 2 (F__law_same n)
  | 0 => t_def0 (ps := [("told" : Str), ("due" : Str)]) z.d__law_same z.g__law_same (fun _ _ _ _ _ _ us hl => match us, hl with | [_, _], _ => rfl)
  | n + 1 => t_def (N := [("told" : Str), ("due" : Str), ("at" : Str)]) (ps := [("told" : Str), ("due" : Str)]) z.d__law_same ⟨rfl, rfl, rfl, by decide +kernel, rfl, by decide +kernel, by decide +kernel⟩ z.g__law_same (fun _ _ _ _ _ _ us hl => match us, hl with | [_, _], _ => rfl) fun X c => bd__law_same z (Nat.le_add_right _ _) (okn__law_same z n) X c
/-! _law_pairs -/
def b__law_pairs : SW := sSeq (sSet 1 (oLst [])) (sSeq (sFor (iRange1 (oVar 0)) (gNm 2) (sSeq (sSet 1 (oPrim (lift2 pAdd) [.sl 1, .ex (oComp [3] (iRange2 (oPrim (lift2 pAdd) [.sl 2, .ex (oC (.int 1))]) (oVar 0)) (gNm 3) (tTrue) (oTup [oVar 2, oVar 3]))])) (sNext))) (sSeq (sRetV 1) (sNext)))
def F__law_pairs : FW := fnW 4 b__law_pairs
theorem bd__law_pairs {P : Program} {w : World} {base : Heap} {G : Gv} (z : Fx G) (X : Cx) (c : CT X P w base G 0 [("many" : Str), ("found" : Str), ("one" : Str), ("two" : Str)] (defScope (top 49)) (defScope (top 49))) : SSs X G (defBody (top 49)) b__law_pairs :=
  sss_cons (t_set c (by decide +kernel) (so_lst (by decide) t_anil) rfl)
    (sss_cons (ss_for c.cx (t_irange1 c z.f_range (by decide +kernel) (t_var c (by decide +kernel)) rfl) (t_gnm c (by decide +kernel)) (sss_cons (t_set c (by decide +kernel) (so_bin or_add (t_sl c (by decide +kernel)) (t_ex (t_comp c [(("two" : Str), 3)] (t_irange2 c z.f_range (by decide +kernel) (so_bin or_add (t_sl c (by decide +kernel)) (t_ex (t_int))) rfl (t_var c (by decide +kernel)) rfl) (by decide +kernel) (by decide +kernel) (fun _ d1 => t_gnm d1 (by decide +kernel)) (fun _ d1 => st_nil) (fun _ d1 => so_tup (by decide) (t_acons (t_var d1 (by decide +kernel)) rfl (t_acons (t_var d1 (by decide +kernel)) rfl t_anil))) (fun _ _ => rfl)))) rfl)
    (sss_nil)) (fun _ => rfl))
    (sss_cons (ss_retV (t_pv c (by decide +kernel)))
    (sss_nil)))
theorem ok__law_pairs {P : Program} {w : World} {base : Heap} {G : Gv} (z : Fx G) : FnG P w base G 1 "_law_pairs" 1 F__law_pairs :=
  t_def (N := [("many" : Str), ("found" : Str), ("one" : Str), ("two" : Str)]) (ps := [("many" : Str)]) z.d__law_pairs ⟨rfl, rfl, rfl, by decide +kernel, rfl, by decide +kernel, by decide +kernel⟩ z.g__law_pairs (fun _ _ _ _ _ _ us hl => match us, hl with | [_], _ => rfl) fun X c => bd__law_pairs z X c
/-! _law_games -/
def b__law_games : SW := sSeq (sSet 3 (oLst [])) (sSeq (sFor (iSeq (oCall 1 F__law_pairs [oVar 1])) (gTup [gNm 4, gNm 5]) (sSeq (sIf (tOf (oPrim (lift2 pGe) [.ex (oCall 2 F__law_take [oVar 0, oC (.int 9)]), .sl 2])) (sSeq (sDrop (oApp 3 (oIf (tOf (oPrim (lift2 (pEq false)) [.ex (oCall 2 F__law_take [oVar 0, oC (.int 2)]), .ex (oC (.int 0))])) (oTup [oVar 4, oVar 5]) (oTup [oVar 5, oVar 4])))) (sNext)) (sNext)) (sNext))) (sSeq (sRet (oTup [oVar 1, oPrim (lift1 pTuple) [.ex (oPrim (lift1 pSorted) [.sl 3])]])) (sNext)))
def F__law_games : FW := fnW 6 b__law_games
theorem bd__law_games {P : Program} {w : World} {base : Heap} {G : Gv} (z : Fx G) (X : Cx) (c : CT X P w base G 1 [("well" : Str), ("many" : Str), ("share" : Str), ("found" : Str), ("one" : Str), ("two" : Str)] (defScope (top 50)) (defScope (top 50))) : SSs X G (defBody (top 50)) b__law_games :=
  sss_cons (t_set c (by decide +kernel) (so_lst (by decide) t_anil) rfl)
    (sss_cons (ss_for c.cx (t_iseq c (t_call c (ok__law_pairs z) (by decide) (by decide +kernel) (t_acons (t_var c (by decide +kernel)) rfl t_anil) rfl)) (t_gtup c (sgs_cons (t_gnm c (by decide +kernel)) (sgs_cons (t_gnm c (by decide +kernel)) sgs_nil rfl) rfl) rfl rfl) (sss_cons (ss_if (sv_cmp or_ge (t_ex (t_call c (ok__law_take z) (by decide) (by decide +kernel) (t_acons (t_var c (by decide +kernel)) rfl (t_acons (t_int) rfl t_anil)) rfl)) (t_sl c (by decide +kernel)) rfl) (sss_cons (ss_drop (so_app (t_pv c (by decide +kernel)) rfl (so_if (sv_cmp (or_eq c.cx) (t_ex (t_call c (ok__law_take z) (by decide) (by decide +kernel) (t_acons (t_var c (by decide +kernel)) rfl (t_acons (t_int) rfl t_anil)) rfl)) (t_ex (t_int)) rfl) (so_tup (by decide) (t_acons (t_var c (by decide +kernel)) rfl (t_acons (t_var c (by decide +kernel)) rfl t_anil))) (so_tup (by decide) (t_acons (t_var c (by decide +kernel)) rfl (t_acons (t_var c (by decide +kernel)) rfl t_anil)))) rfl rfl) rfl)
    (sss_nil)) (sss_nil))
    (sss_nil)) (fun _ => rfl))
    (sss_cons (ss_ret (so_tup (by decide) (t_acons (t_var c (by decide +kernel)) rfl (t_acons (t_tuple_ c z.f_tuple (by decide +kernel) (t_ocons (t_ex (t_sorted c z.f_sorted (by decide +kernel) (t_ocons (t_sl c (by decide +kernel)) rfl t_onil) rfl)) rfl t_onil) rfl) rfl t_anil))))
    (sss_nil)))
theorem ok__law_games {P : Program} {w : World} {base : Heap} {G : Gv} (z : Fx G) : FnG P w base G 2 "_law_games" 3 F__law_games :=
  t_def (N := [("well" : Str), ("many" : Str), ("share" : Str), ("found" : Str), ("one" : Str), ("two" : Str)]) (ps := [("well" : Str), ("many" : Str), ("share" : Str)]) z.d__law_games ⟨rfl, rfl, rfl, by decide +kernel, rfl, by decide +kernel, by decide +kernel⟩ z.g__law_games (fun _ _ _ _ _ _ us hl => match us, hl with | [_, _, _], _ => rfl) fun X c => bd__law_games z X c
/-! _law_results -/
def b__law_results : SW := sSeq (sPar [2, 3] [oCall 2 F__law_take [oVar 0, oC (.int 4)], oLst []]) (sSeq (sPar [4, 5] [rgW (iRange1 (oVar 1)) false, oPrim (lift2 pAdd) [.ex (oC (.int 1)), .ex (oCall 2 F__law_take [oVar 0, oVar 1])]]) (sSeq (sFor (iRange1 (oVar 1)) (gNm 6) (sSeq (sSet 7 (oCall 2 F__law_take [oVar 0, oVar 1])) (sSeq (sTgt (gTup [gPut 4 (.sl 7), gPut 4 (.ex (oC (.int 0)))]) (oTup [oPrim (lift2 pIx) [.sl 4, .ex (oC (.int 0))], oPrim (lift2 pIx) [.sl 4, .sl 7]])) (sNext)))) (sSeq (sFor (iSeq (oCall 1 F__law_pairs [oVar 1])) (gTup [gNm 7, gNm 8]) (sSeq (sSet 9 (oPrim (lift2 (pEq false)) [.ex (oCall 2 F__law_take [oVar 0, oC (.int 2)]), .ex (oC (.int 0))])) (sSeq (sIf (tOf (oPrim (lift2 (pEq false)) [.sl 2, .ex (oC (.int 1))])) (sSeq (sSet 9 (oPrim (lift2 (pEq false)) [.ex (oCall 2 F__law_take [oVar 0, oC (.int 6)]), .ex (oC (.int 0))])) (sNext)) (sNext)) (sSeq (sIf (tAndW (tOf (oPrim (lift2 (pEq false)) [.sl 2, .ex (oC (.int 2))])) (tOf (oChain (lift2 pLt) (lift2 pLe) (.sl 7) (.sl 5) (.sl 8)))) (sSeq (sSet 9 (oC (.bl false))) (sNext)) (sNext)) (sSeq (sIf (tOf (oPrim (lift2 (pEq false)) [.sl 2, .ex (oC (.int 3))])) (sSeq (sSet 9 (oPrim (lift2 pGt) [.ex (oPrim (lift2 pMul) [.ex (oC (.int 2)), .ex (oPrim (lift2 pSub) [.sl 8, .sl 7])]), .sl 1])) (sNext)) (sNext)) (sSeq (sDrop (oApp 3 (oIf (tTru (.sl 9)) (oTup [oPrim (lift2 pIx) [.sl 4, .sl 8], oPrim (lift2 pIx) [.sl 4, .sl 7]]) (oTup [oPrim (lift2 pIx) [.sl 4, .sl 7], oPrim (lift2 pIx) [.sl 4, .sl 8]])))) (sNext))))))) (sSeq (sRet (oTup [oVar 1, oPrim (lift1 pTuple) [.ex (oPrim (lift1 pSorted) [.sl 3])]])) (sNext)))))
def F__law_results : FW := fnW 10 b__law_results
theorem bd__law_results {P : Program} {w : World} {base : Heap} {G : Gv} (z : Fx G) (X : Cx) (c : CT X P w base G 1 [("well" : Str), ("many" : Str), ("way" : Str), ("found" : Str), ("row" : Str), ("cut" : Str), ("turn" : Str), ("one" : Str), ("two" : Str), ("is_turned" : Str)] (defScope (top 51)) (defScope (top 51))) : SSs X G (defBody (top 51)) b__law_results :=
  sss_cons (t_par2 c (by decide +kernel) (by decide +kernel) (by decide) (by decide +kernel) (by decide +kernel) (t_acons (t_call c (ok__law_take z) (by decide) (by decide +kernel) (t_acons (t_var c (by decide +kernel)) rfl (t_acons (t_int) rfl t_anil)) rfl) rfl (t_acons (so_lst (by decide) t_anil) rfl t_anil)) (fun _ => rfl))
    (sss_cons (t_par2 c (by decide +kernel) (by decide +kernel) (by decide) (by decide +kernel) (by decide +kernel) (t_acons (t_listRg1 c z.f_list z.f_range (by decide +kernel) (by decide +kernel) (t_var c (by decide +kernel)) rfl) rfl (t_acons (so_bin or_add (t_ex (t_int)) (t_ex (t_call c (ok__law_take z) (by decide) (by decide +kernel) (t_acons (t_var c (by decide +kernel)) rfl (t_acons (t_var c (by decide +kernel)) rfl t_anil)) rfl))) rfl t_anil)) (fun _ => rfl))
    (sss_cons (ss_for c.cx (t_irange1 c z.f_range (by decide +kernel) (t_var c (by decide +kernel)) rfl) (t_gnm c (by decide +kernel)) (sss_cons (t_set c (by decide +kernel) (t_call c (ok__law_take z) (by decide) (by decide +kernel) (t_acons (t_var c (by decide +kernel)) rfl (t_acons (t_var c (by decide +kernel)) rfl t_anil)) rfl) rfl)
    (sss_cons (t_tgt c (so_tup (by decide) (t_acons (so_ix (ir_ix c.cx) (fun _ _ => rfl) (t_sl c (by decide +kernel)) (t_ex (t_int))) rfl (t_acons (so_ix (ir_ix c.cx) (fun _ _ => rfl) (t_sl c (by decide +kernel)) (t_sl c (by decide +kernel))) rfl t_anil))) (t_gtup c (sgs_cons (t_gput c (by decide +kernel) (t_sl c (by decide +kernel)) rfl) (sgs_cons (t_gput c (by decide +kernel) (t_ex (t_int)) rfl) sgs_nil rfl) rfl) rfl rfl) rfl rfl (fun _ => rfl))
    (sss_nil))) (fun _ => rfl))
    (sss_cons (ss_for c.cx (t_iseq c (t_call c (ok__law_pairs z) (by decide) (by decide +kernel) (t_acons (t_var c (by decide +kernel)) rfl t_anil) rfl)) (t_gtup c (sgs_cons (t_gnm c (by decide +kernel)) (sgs_cons (t_gnm c (by decide +kernel)) sgs_nil rfl) rfl) rfl rfl) (sss_cons (t_set c (by decide +kernel) (so_cmp (or_eq c.cx) (t_ex (t_call c (ok__law_take z) (by decide) (by decide +kernel) (t_acons (t_var c (by decide +kernel)) rfl (t_acons (t_int) rfl t_anil)) rfl)) (t_ex (t_int)) rfl) rfl)
    (sss_cons (ss_if (sv_cmp (or_eq c.cx) (t_sl c (by decide +kernel)) (t_ex (t_int)) rfl) (sss_cons (t_set c (by decide +kernel) (so_cmp (or_eq c.cx) (t_ex (t_call c (ok__law_take z) (by decide) (by decide +kernel) (t_acons (t_var c (by decide +kernel)) rfl (t_acons (t_int) rfl t_anil)) rfl)) (t_ex (t_int)) rfl) rfl)
    (sss_nil)) (sss_nil))
    (sss_cons (ss_if (PW.pt (sw_and (sv_cmp (or_eq c.cx) (t_sl c (by decide +kernel)) (t_ex (t_int)) rfl) (sw_and1 (sv_chain (or_lt c.cx) (or_le c.cx) (t_sl c (by decide +kernel)) (t_sl c (by decide +kernel)) (t_sl c (by decide +kernel)) rfl)))) (sss_cons (t_set c (by decide +kernel) (t_bl) rfl)
    (sss_nil)) (sss_nil))
    (sss_cons (ss_if (sv_cmp (or_eq c.cx) (t_sl c (by decide +kernel)) (t_ex (t_int)) rfl) (sss_cons (t_set c (by decide +kernel) (so_cmp or_gt (t_ex (so_bin or_mul (t_ex (t_int)) (t_ex (so_bin or_sub (t_sl c (by decide +kernel)) (t_sl c (by decide +kernel)))))) (t_sl c (by decide +kernel)) rfl) rfl)
    (sss_nil)) (sss_nil))
    (sss_cons (ss_drop (so_app (t_pv c (by decide +kernel)) rfl (so_if (sv_tru c.cx (t_sl c (by decide +kernel)) (fun _ => rfl)) (so_tup (by decide) (t_acons (so_ix (ir_ix c.cx) (fun _ _ => rfl) (t_sl c (by decide +kernel)) (t_sl c (by decide +kernel))) rfl (t_acons (so_ix (ir_ix c.cx) (fun _ _ => rfl) (t_sl c (by decide +kernel)) (t_sl c (by decide +kernel))) rfl t_anil))) (so_tup (by decide) (t_acons (so_ix (ir_ix c.cx) (fun _ _ => rfl) (t_sl c (by decide +kernel)) (t_sl c (by decide +kernel))) rfl (t_acons (so_ix (ir_ix c.cx) (fun _ _ => rfl) (t_sl c (by decide +kernel)) (t_sl c (by decide +kernel))) rfl t_anil)))) rfl rfl) rfl)
    (sss_nil)))))) (fun _ => rfl))
    (sss_cons (ss_ret (so_tup (by decide) (t_acons (t_var c (by decide +kernel)) rfl (t_acons (t_tuple_ c z.f_tuple (by decide +kernel) (t_ocons (t_ex (t_sorted c z.f_sorted (by decide +kernel) (t_ocons (t_sl c (by decide +kernel)) rfl t_onil) rfl)) rfl t_onil) rfl) rfl t_anil))))
    (sss_nil)))))
theorem ok__law_results {P : Program} {w : World} {base : Heap} {G : Gv} (z : Fx G) : FnG P w base G 2 "_law_results" 2 F__law_results :=
  t_def (N := [("well" : Str), ("many" : Str), ("way" : Str), ("found" : Str), ("row" : Str), ("cut" : Str), ("turn" : Str), ("one" : Str), ("two" : Str), ("is_turned" : Str)]) (ps := [("well" : Str), ("many" : Str)]) z.d__law_results ⟨rfl, rfl, rfl, by decide +kernel, rfl, by decide +kernel, by decide +kernel⟩ z.g__law_results (fun _ _ _ _ _ _ us hl => match us, hl with | [_, _], _ => rfl) fun X c => bd__law_results z X c
/-! _law_points -/
def b__law_points : SW := sSeq (sRet (oPrim (lift1 pTuple) [.ex (oComp [1] (iRange1 (oPrim (lift2 pIx) [.sl 0, .ex (oC (.int 0))])) (gNm 1) (tTrue) (oPrim (lift1 pLen) [.ex (oComp [2, 3] (iSeq (oPrim (lift2 pIx) [.sl 0, .ex (oC (.int 1))])) (gTup [gNm 2, gNm 3]) (tOf (oPrim (lift2 (pEq false)) [.sl 2, .sl 1])) (oC (.int 1)))]))])) (sNext)
def F__law_points : FW := fnW 4 b__law_points
theorem bd__law_points {P : Program} {w : World} {base : Heap} {G : Gv} (z : Fx G) (X : Cx) (c : CT X P w base G 0 [("games" : Str), ("player" : Str), ("one" : Str), ("two" : Str)] (defScope (top 52)) (defScope (top 52))) : SSs X G (defBody (top 52)) b__law_points :=
  sss_cons (ss_ret (t_tuple_ c z.f_tuple (by decide +kernel) (t_ocons (t_ex (t_comp c [(("player" : Str), 1)] (t_irange1 c z.f_range (by decide +kernel) (so_ix (ir_ix c.cx) (fun _ _ => rfl) (t_sl c (by decide +kernel)) (t_ex (t_int))) rfl) (by decide +kernel) (by decide +kernel) (fun _ d1 => t_gnm d1 (by decide +kernel)) (fun _ d1 => st_nil) (fun _ d1 => t_len d1 z.f_len (by decide +kernel) (t_ocons (t_ex (t_comp d1 [(("one" : Str), 2), (("two" : Str), 3)] (t_iseq d1 (so_ix (ir_ix d1.cx) (fun _ _ => rfl) (t_sl d1 (by decide +kernel)) (t_ex (t_int)))) (by decide +kernel) (by decide +kernel) (fun _ d2 => t_gtup d2 (sgs_cons (t_gnm d2 (by decide +kernel)) (sgs_cons (t_gnm d2 (by decide +kernel)) sgs_nil rfl) rfl) rfl rfl) (fun _ d2 => st_one (sv_cmp (or_eq d2.cx) (t_sl d2 (by decide +kernel)) (t_sl d2 (by decide +kernel)) rfl)) (fun _ d2 => t_int) (fun _ _ => rfl))) rfl t_onil) rfl) (fun _ _ => rfl))) rfl t_onil) rfl))
    (sss_nil)
theorem ok__law_points {P : Program} {w : World} {base : Heap} {G : Gv} (z : Fx G) : FnG P w base G 1 "_law_points" 1 F__law_points :=
  t_def (N := [("games" : Str), ("player" : Str), ("one" : Str), ("two" : Str)]) (ps := [("games" : Str)]) z.d__law_points ⟨rfl, rfl, rfl, by decide +kernel, rfl, by decide +kernel, by decide +kernel⟩ z.g__law_points (fun _ _ _ _ _ _ us hl => match us, hl with | [_], _ => rfl) fun X c => bd__law_points z X c
/-! _law_is_up_to -/
def b__law_is_up_to : SW := sSeq (sRet (oAnd (oPrim (lift2 pIsi) [.sl 0, .ex (oC (.ty "int"))]) (oAnd (oNotT (oPrim (lift2 pIsi) [.sl 0, .ex (oC (.ty "bool"))])) (oChain (lift2 pLe) (lift2 pLe) (.ex (oC (.int 0))) (.sl 0) (.sl 1))))) (sNext)
def F__law_is_up_to : FW := fnW 2 b__law_is_up_to
theorem bd__law_is_up_to {P : Program} {w : World} {base : Heap} {G : Gv} (z : Fx G) (X : Cx) (c : CT X P w base G 0 [("value" : Str), ("most" : Str)] (defScope (top 53)) (defScope (top 53))) : SSs X G (defBody (top 53)) b__law_is_up_to :=
  sss_cons (ss_ret (so_and c.cx (t_isi c z.f_isinstance (by decide +kernel) (t_ocons (t_sl c (by decide +kernel)) rfl (t_ocons (t_ex (t_ty c z.f_int (by decide +kernel) boot_int (by decide))) rfl t_onil)) rfl) (so_and c.cx (t_notT c (t_isi c z.f_isinstance (by decide +kernel) (t_ocons (t_sl c (by decide +kernel)) rfl (t_ocons (t_ex (t_ty c z.f_bool (by decide +kernel) boot_bool (by decide))) rfl t_onil)) rfl)) (so_one (so_chain (or_le c.cx) (or_le c.cx) (t_ex (t_int)) (t_sl c (by decide +kernel)) (t_sl c (by decide +kernel)) rfl)))))
    (sss_nil)
theorem ok__law_is_up_to {P : Program} {w : World} {base : Heap} {G : Gv} (z : Fx G) : FnG P w base G 1 "_law_is_up_to" 2 F__law_is_up_to :=
  t_def (N := [("value" : Str), ("most" : Str)]) (ps := [("value" : Str), ("most" : Str)]) z.d__law_is_up_to ⟨rfl, rfl, rfl, by decide +kernel, rfl, by decide +kernel, by decide +kernel⟩ z.g__law_is_up_to (fun _ _ _ _ _ _ us hl => match us, hl with | [_, _], _ => rfl) fun X c => bd__law_is_up_to z X c
/-! _law_are_games -/
def b__law_are_games : SW := sSeq (sIf (tOrW (tNotW (tTru (.ex (oPrim (lift2 pIsi) [.sl 0, .ex (oC (.ty "tuple"))])))) (tOrW (tOf (oPrim (lift2 (pEq true)) [.ex (oPrim (lift1 pLen) [.sl 0]), .ex (oC (.int 2))])) (tOrW (tNotW (tTru (.ex (oCall 2 F__law_is_up_to [oPrim (lift2 pIx) [.sl 0, .ex (oC (.int 0))], oC (.int 8)])))) (tOrW (tOf (oPrim (lift2 pLt) [.ex (oPrim (lift2 pIx) [.sl 0, .ex (oC (.int 0))]), .ex (oC (.int 1))])) (tNotW (tTru (.ex (oPrim (lift2 pIsi) [.ex (oPrim (lift2 pIx) [.sl 0, .ex (oC (.int 1))]), .ex (oC (.ty "tuple"))])))))))) (sSeq (sRet (oC (.bl false))) (sNext)) (sNext)) (sSeq (sFor (iSeq (oPrim (lift2 pIx) [.sl 0, .ex (oC (.int 1))])) (gNm 1) (sSeq (sIf (tOrW (tNotW (tTru (.ex (oPrim (lift2 pIsi) [.sl 1, .ex (oC (.ty "tuple"))])))) (tOrW (tOf (oPrim (lift2 (pEq true)) [.ex (oPrim (lift1 pLen) [.sl 1]), .ex (oC (.int 2))])) (tOrW (tNotW (tTru (.ex (oPrim (lift1 pAll) [.ex (oComp [2] (iSeq (oVar 1)) (gNm 2) (tTrue) (oCall 2 F__law_is_up_to [oVar 2, oPrim (lift2 pSub) [.ex (oPrim (lift2 pIx) [.sl 0, .ex (oC (.int 0))]), .ex (oC (.int 1))]]))])))) (tOf (oPrim (lift2 (pEq false)) [.ex (oPrim (lift2 pIx) [.sl 1, .ex (oC (.int 0))]), .ex (oPrim (lift2 pIx) [.sl 1, .ex (oC (.int 1))])]))))) (sSeq (sRet (oC (.bl false))) (sNext)) (sNext)) (sNext))) (sSeq (sIf (tTru (.ex (oPrim (lift1 pAny) [.ex (oComp [3] (iRange2 (oC (.int 1)) (oPrim (lift1 pLen) [.ex (oPrim (lift2 pIx) [.sl 0, .ex (oC (.int 1))])])) (gNm 3) (tTrue) (oPrim (lift2 pLe) [.ex (oPrim (lift2 pIx) [.ex (oPrim (lift2 pIx) [.sl 0, .ex (oC (.int 1))]), .sl 3]), .ex (oPrim (lift2 pIx) [.ex (oPrim (lift2 pIx) [.sl 0, .ex (oC (.int 1))]), .ex (oPrim (lift2 pSub) [.sl 3, .ex (oC (.int 1))])])]))]))) (sSeq (sRet (oC (.bl false))) (sNext)) (sNext)) (sSeq (sRet (oNotT (oPrim (lift1 pAny) [.ex (oComp [4, 5] (iSeq (oPrim (lift2 pIx) [.sl 0, .ex (oC (.int 1))])) (gTup [gNm 4, gNm 5]) (tTrue) (oPrim (lift2 (pIn false)) [.ex (oTup [oVar 5, oVar 4]), .ex (oPrim (lift2 pIx) [.sl 0, .ex (oC (.int 1))])]))]))) (sNext))))
def F__law_are_games : FW := fnW 6 b__law_are_games
theorem bd__law_are_games {P : Program} {w : World} {base : Heap} {G : Gv} (z : Fx G) (X : Cx) (c : CT X P w base G 1 [("value" : Str), ("pair" : Str), ("each" : Str), ("k" : Str), ("one" : Str), ("two" : Str)] (defScope (top 54)) (defScope (top 54))) : SSs X G (defBody (top 54)) b__law_are_games :=
  sss_cons (ss_if (PW.pt (sw_or (sv_not (sv_tru c.cx (t_ex (t_isi c z.f_isinstance (by decide +kernel) (t_ocons (t_sl c (by decide +kernel)) rfl (t_ocons (t_ex (t_ty c z.f_tuple (by decide +kernel) boot_tuple (by decide))) rfl t_onil)) rfl)) (fun _ => rfl))) (sw_or (sv_cmp (or_ne c.cx) (t_ex (t_len c z.f_len (by decide +kernel) (t_ocons (t_sl c (by decide +kernel)) rfl t_onil) rfl)) (t_ex (t_int)) rfl) (sw_or (sv_not (sv_tru c.cx (t_ex (t_call c (ok__law_is_up_to z) (by decide) (by decide +kernel) (t_acons (so_ix (ir_ix c.cx) (fun _ _ => rfl) (t_sl c (by decide +kernel)) (t_ex (t_int))) rfl (t_acons (t_int) rfl t_anil)) rfl)) (fun _ => rfl))) (sw_or (sv_cmp (or_lt c.cx) (t_ex (so_ix (ir_ix c.cx) (fun _ _ => rfl) (t_sl c (by decide +kernel)) (t_ex (t_int)))) (t_ex (t_int)) rfl) (sw_or1 (sv_not (sv_tru c.cx (t_ex (t_isi c z.f_isinstance (by decide +kernel) (t_ocons (t_ex (so_ix (ir_ix c.cx) (fun _ _ => rfl) (t_sl c (by decide +kernel)) (t_ex (t_int)))) rfl (t_ocons (t_ex (t_ty c z.f_tuple (by decide +kernel) boot_tuple (by decide))) rfl t_onil)) rfl)) (fun _ => rfl))))))))) (sss_cons (ss_ret (t_bl))
    (sss_nil)) (sss_nil))
    (sss_cons (ss_for c.cx (t_iseq c (so_ix (ir_ix c.cx) (fun _ _ => rfl) (t_sl c (by decide +kernel)) (t_ex (t_int)))) (t_gnm c (by decide +kernel)) (sss_cons (ss_if (PW.pt (sw_or (sv_not (sv_tru c.cx (t_ex (t_isi c z.f_isinstance (by decide +kernel) (t_ocons (t_sl c (by decide +kernel)) rfl (t_ocons (t_ex (t_ty c z.f_tuple (by decide +kernel) boot_tuple (by decide))) rfl t_onil)) rfl)) (fun _ => rfl))) (sw_or (sv_cmp (or_ne c.cx) (t_ex (t_len c z.f_len (by decide +kernel) (t_ocons (t_sl c (by decide +kernel)) rfl t_onil) rfl)) (t_ex (t_int)) rfl) (sw_or (sv_not (sv_tru c.cx (t_ex (t_all c z.f_all (by decide +kernel) (t_ocons (t_ex (t_comp c [(("each" : Str), 2)] (t_iseq c (t_var c (by decide +kernel))) (by decide +kernel) (by decide +kernel) (fun _ d1 => t_gnm d1 (by decide +kernel)) (fun _ d1 => st_nil) (fun _ d1 => t_call d1 (ok__law_is_up_to z) (by decide) (by decide +kernel) (t_acons (t_var d1 (by decide +kernel)) rfl (t_acons (so_bin or_sub (t_ex (so_ix (ir_ix d1.cx) (fun _ _ => rfl) (t_sl d1 (by decide +kernel)) (t_ex (t_int)))) (t_ex (t_int))) rfl t_anil)) rfl) (fun _ _ => rfl))) rfl t_onil) rfl)) (fun _ => rfl))) (sw_or1 (sv_cmp (or_eq c.cx) (t_ex (so_ix (ir_ix c.cx) (fun _ _ => rfl) (t_sl c (by decide +kernel)) (t_ex (t_int)))) (t_ex (so_ix (ir_ix c.cx) (fun _ _ => rfl) (t_sl c (by decide +kernel)) (t_ex (t_int)))) rfl)))))) (sss_cons (ss_ret (t_bl))
    (sss_nil)) (sss_nil))
    (sss_nil)) (fun _ => rfl))
    (sss_cons (ss_if (sv_tru c.cx (t_ex (t_any c z.f_any (by decide +kernel) (t_ocons (t_ex (t_comp c [(("k" : Str), 3)] (t_irange2 c z.f_range (by decide +kernel) (t_int) rfl (t_len c z.f_len (by decide +kernel) (t_ocons (t_ex (so_ix (ir_ix c.cx) (fun _ _ => rfl) (t_sl c (by decide +kernel)) (t_ex (t_int)))) rfl t_onil) rfl) rfl) (by decide +kernel) (by decide +kernel) (fun _ d1 => t_gnm d1 (by decide +kernel)) (fun _ d1 => st_nil) (fun _ d1 => so_cmp (or_le d1.cx) (t_ex (so_ix (ir_ix d1.cx) (fun _ _ => rfl) (t_ex (so_ix (ir_ix d1.cx) (fun _ _ => rfl) (t_sl d1 (by decide +kernel)) (t_ex (t_int)))) (t_sl d1 (by decide +kernel)))) (t_ex (so_ix (ir_ix d1.cx) (fun _ _ => rfl) (t_ex (so_ix (ir_ix d1.cx) (fun _ _ => rfl) (t_sl d1 (by decide +kernel)) (t_ex (t_int)))) (t_ex (so_bin or_sub (t_sl d1 (by decide +kernel)) (t_ex (t_int)))))) rfl) (fun _ _ => rfl))) rfl t_onil) rfl)) (fun _ => rfl)) (sss_cons (ss_ret (t_bl))
    (sss_nil)) (sss_nil))
    (sss_cons (ss_ret (t_notT c (t_any c z.f_any (by decide +kernel) (t_ocons (t_ex (t_comp c [(("one" : Str), 4), (("two" : Str), 5)] (t_iseq c (so_ix (ir_ix c.cx) (fun _ _ => rfl) (t_sl c (by decide +kernel)) (t_ex (t_int)))) (by decide +kernel) (by decide +kernel) (fun _ d1 => t_gtup d1 (sgs_cons (t_gnm d1 (by decide +kernel)) (sgs_cons (t_gnm d1 (by decide +kernel)) sgs_nil rfl) rfl) rfl rfl) (fun _ d1 => st_nil) (fun _ d1 => so_cmp (or_in d1.cx) (t_ex (so_tup (by decide) (t_acons (t_var d1 (by decide +kernel)) rfl (t_acons (t_var d1 (by decide +kernel)) rfl t_anil)))) (t_ex (so_ix (ir_ix d1.cx) (fun _ _ => rfl) (t_sl d1 (by decide +kernel)) (t_ex (t_int)))) rfl) (fun _ _ => rfl))) rfl t_onil) rfl)))
    (sss_nil))))
theorem ok__law_are_games {P : Program} {w : World} {base : Heap} {G : Gv} (z : Fx G) : FnG P w base G 2 "_law_are_games" 1 F__law_are_games :=
  t_def (N := [("value" : Str), ("pair" : Str), ("each" : Str), ("k" : Str), ("one" : Str), ("two" : Str)]) (ps := [("value" : Str)]) z.d__law_are_games ⟨rfl, rfl, rfl, by decide +kernel, rfl, by decide +kernel, by decide +kernel⟩ z.g__law_are_games (fun _ _ _ _ _ _ us hl => match us, hl with | [_], _ => rfl) fun X c => bd__law_are_games z X c
/-! _law_figures -/
def b__law_figures : SW := sSeq (sIf (tOrW (tOf (oPrim (lift2 (pEq false)) [.sl 0, .ex (oC (.str ("" : Str)))])) (tOrW (tOf (oPrim (lift2 (pEq true)) [.ex (oComp [1] (iSeq (oVar 0)) (gNm 1) (tOf (oPrim (lift2 (pIn true)) [.sl 1, .ex (oC (.str ("0123456789" : Str)))])) (oVar 1)), .ex (oLst [])])) (tAndW (tOf (oPrim (lift2 pGt) [.ex (oPrim (lift1 pLen) [.sl 0]), .ex (oC (.int 1))])) (tOf (oPrim (lift2 (pEq false)) [.ex (oPrim (lift2 pIx) [.sl 0, .ex (oC (.int 0))]), .ex (oC (.str ("0" : Str)))]))))) (sSeq (sRet (oC .non)) (sNext)) (sNext)) (sSeq (sRet (oPrim (lift1 pInt) [.sl 0])) (sNext))
def F__law_figures : FW := fnW 2 b__law_figures
theorem bd__law_figures {P : Program} {w : World} {base : Heap} {G : Gv} (z : Fx G) (X : Cx) (c : CT X P w base G 0 [("word" : Str), ("sign" : Str)] (defScope (top 55)) (defScope (top 55))) : SSs X G (defBody (top 55)) b__law_figures :=
  sss_cons (ss_if (PW.pt (sw_or (sv_cmp (or_eq c.cx) (t_sl c (by decide +kernel)) (t_ex (t_str)) rfl) (sw_or (sv_cmp (or_ne c.cx) (t_ex (t_comp c [(("sign" : Str), 1)] (t_iseq c (t_var c (by decide +kernel))) (by decide +kernel) (by decide +kernel) (fun _ d1 => t_gnm d1 (by decide +kernel)) (fun _ d1 => st_one (sv_cmp (or_notin d1.cx) (t_sl d1 (by decide +kernel)) (t_ex (t_str)) rfl)) (fun _ d1 => t_var d1 (by decide +kernel)) (fun _ _ => rfl))) (t_ex (so_lst (by decide) t_anil)) rfl) (sw_or1 (PW.pt (sw_and (sv_cmp or_gt (t_ex (t_len c z.f_len (by decide +kernel) (t_ocons (t_sl c (by decide +kernel)) rfl t_onil) rfl)) (t_ex (t_int)) rfl) (sw_and1 (sv_cmp (or_eq c.cx) (t_ex (so_ix (ir_ix c.cx) (fun _ _ => rfl) (t_sl c (by decide +kernel)) (t_ex (t_int)))) (t_ex (t_str)) rfl)))))))) (sss_cons (ss_ret (t_none))
    (sss_nil)) (sss_nil))
    (sss_cons (ss_ret (t_int_ c z.f_int (by decide +kernel) (t_ocons (t_sl c (by decide +kernel)) rfl t_onil) rfl))
    (sss_nil))
theorem ok__law_figures {P : Program} {w : World} {base : Heap} {G : Gv} (z : Fx G) : FnG P w base G 1 "_law_figures" 1 F__law_figures :=
  t_def (N := [("word" : Str), ("sign" : Str)]) (ps := [("word" : Str)]) z.d__law_figures ⟨rfl, rfl, rfl, by decide +kernel, rfl, by decide +kernel, by decide +kernel⟩ z.g__law_figures (fun _ _ _ _ _ _ us hl => match us, hl with | [_], _ => rfl) fun X c => bd__law_figures z X c
/-! _law_read_games -/
def b__law_read_games : SW := sSeq (sSet 1 (oMeth (lift2 pSplit) (.sl 0) [.ex (oC (.str ("\n" : Str)))])) (sSeq (sIf (tOrW (tOf (oPrim (lift2 pLt) [.ex (oPrim (lift1 pLen) [.sl 1]), .ex (oC (.int 2))])) (tOrW (tOf (oPrim (lift2 (pEq true)) [.ex (oPrim (lift2 pIx) [.sl 1, .ex (oPrim (lift1 pNeg) [.ex (oC (.int 1))])]), .ex (oC (.str ("" : Str)))])) (tOf (oPrim (lift2 (pEq true)) [.ex (oSl (.ex (oPrim (lift2 pIx) [.sl 1, .ex (oC (.int 0))])) none (some (oC (.int 8)))), .ex (oC (.str ("players " : Str)))])))) (sSeq (sRet (oC .non)) (sNext)) (sNext)) (sSeq (sSet 2 (oCall 1 F__law_figures [oSl (.ex (oPrim (lift2 pIx) [.sl 1, .ex (oC (.int 0))])) (some (oC (.int 8))) none])) (sSeq (sIf (tOrW (tOf (oPrim (lift2 (pIs false)) [.sl 2, .ex (oC .non)])) (tNotW (tOf (oChain (lift2 pLt) (lift2 pLt) (.ex (oC (.int 0))) (.sl 2) (.ex (oC (.int 9))))))) (sSeq (sRet (oC .non)) (sNext)) (sNext)) (sSeq (sSet 3 (oLst [])) (sSeq (sFor (iSeq (oSl (.sl 1) (some (oC (.int 1))) (some (oPrim (lift1 pNeg) [.ex (oC (.int 1))])))) (gNm 4) (sSeq (sSet 5 (oMeth (lift2 pSplit) (.sl 4) [.ex (oC (.str (" " : Str)))])) (sSeq (sIf (tOrW (tOf (oPrim (lift2 (pEq true)) [.ex (oPrim (lift1 pLen) [.sl 5]), .ex (oC (.int 3))])) (tOrW (tOf (oPrim (lift2 (pEq true)) [.ex (oPrim (lift2 pIx) [.sl 5, .ex (oC (.int 1))]), .ex (oC (.str ("beat" : Str)))])) (tOrW (tOf (oPrim (lift2 (pIs false)) [.ex (oCall 1 F__law_figures [oPrim (lift2 pIx) [.sl 5, .ex (oC (.int 0))]]), .ex (oC .non)])) (tOf (oPrim (lift2 (pIs false)) [.ex (oCall 1 F__law_figures [oPrim (lift2 pIx) [.sl 5, .ex (oC (.int 2))]]), .ex (oC .non)]))))) (sSeq (sRet (oC .non)) (sNext)) (sNext)) (sSeq (sDrop (oApp 3 (oTup [oCall 1 F__law_figures [oPrim (lift2 pIx) [.sl 5, .ex (oC (.int 0))]], oCall 1 F__law_figures [oPrim (lift2 pIx) [.sl 5, .ex (oC (.int 2))]]]))) (sNext))))) (sSeq (sSet 6 (oTup [oVar 2, oPrim (lift1 pTuple) [.sl 3]])) (sSeq (sRet (oIf (tTru (.ex (oCall 1 F__law_are_games [oVar 6]))) (oVar 6) (oC .non))) (sNext))))))))
def F__law_read_games : FW := fnW 7 b__law_read_games
theorem bd__law_read_games {P : Program} {w : World} {base : Heap} {G : Gv} (z : Fx G) (X : Cx) (c : CT X P w base G 2 [("text" : Str), ("rows" : Str), ("many" : Str), ("found" : Str), ("row" : Str), ("words" : Str), ("told" : Str)] (defScope (top 56)) (defScope (top 56))) : SSs X G (defBody (top 56)) b__law_read_games :=
  sss_cons (t_set c (by decide +kernel) (t_split c (t_sl c (by decide +kernel)) (t_ex (t_str)) rfl rfl rfl) rfl)
    (sss_cons (ss_if (PW.pt (sw_or (sv_cmp (or_lt c.cx) (t_ex (t_len c z.f_len (by decide +kernel) (t_ocons (t_sl c (by decide +kernel)) rfl t_onil) rfl)) (t_ex (t_int)) rfl) (sw_or (sv_cmp (or_ne c.cx) (t_ex (so_ix (ir_ix c.cx) (fun _ _ => rfl) (t_sl c (by decide +kernel)) (t_ex (so_un un_negP (t_ex (t_int)))))) (t_ex (t_str)) rfl) (sw_or1 (sv_cmp (or_ne c.cx) (t_ex (so_sl c.cx (t_ex (so_ix (ir_ix c.cx) (fun _ _ => rfl) (t_sl c (by decide +kernel)) (t_ex (t_int)))) po_n (po_s (t_int)))) (t_ex (t_str)) rfl))))) (sss_cons (ss_ret (t_none))
    (sss_nil)) (sss_nil))
    (sss_cons (t_set c (by decide +kernel) (t_call c (ok__law_figures z) (by decide) (by decide +kernel) (t_acons (so_sl c.cx (t_ex (so_ix (ir_ix c.cx) (fun _ _ => rfl) (t_sl c (by decide +kernel)) (t_ex (t_int)))) (po_s (t_int)) po_n) rfl t_anil) rfl) rfl)
    (sss_cons (ss_if (PW.pt (sw_or (sv_cmp or_is (t_sl c (by decide +kernel)) (t_ex (t_none)) rfl) (sw_or1 (sv_not (sv_chain (or_lt c.cx) (or_lt c.cx) (t_ex (t_int)) (t_sl c (by decide +kernel)) (t_ex (t_int)) rfl))))) (sss_cons (ss_ret (t_none))
    (sss_nil)) (sss_nil))
    (sss_cons (t_set c (by decide +kernel) (so_lst (by decide) t_anil) rfl)
    (sss_cons (ss_for c.cx (t_iseq c (so_sl c.cx (t_sl c (by decide +kernel)) (po_s (t_int)) (po_s (so_un un_negP (t_ex (t_int)))))) (t_gnm c (by decide +kernel)) (sss_cons (t_set c (by decide +kernel) (t_split c (t_sl c (by decide +kernel)) (t_ex (t_str)) rfl rfl rfl) rfl)
    (sss_cons (ss_if (PW.pt (sw_or (sv_cmp (or_ne c.cx) (t_ex (t_len c z.f_len (by decide +kernel) (t_ocons (t_sl c (by decide +kernel)) rfl t_onil) rfl)) (t_ex (t_int)) rfl) (sw_or (sv_cmp (or_ne c.cx) (t_ex (so_ix (ir_ix c.cx) (fun _ _ => rfl) (t_sl c (by decide +kernel)) (t_ex (t_int)))) (t_ex (t_str)) rfl) (sw_or (sv_cmp or_is (t_ex (t_call c (ok__law_figures z) (by decide) (by decide +kernel) (t_acons (so_ix (ir_ix c.cx) (fun _ _ => rfl) (t_sl c (by decide +kernel)) (t_ex (t_int))) rfl t_anil) rfl)) (t_ex (t_none)) rfl) (sw_or1 (sv_cmp or_is (t_ex (t_call c (ok__law_figures z) (by decide) (by decide +kernel) (t_acons (so_ix (ir_ix c.cx) (fun _ _ => rfl) (t_sl c (by decide +kernel)) (t_ex (t_int))) rfl t_anil) rfl)) (t_ex (t_none)) rfl)))))) (sss_cons (ss_ret (t_none))
    (sss_nil)) (sss_nil))
    (sss_cons (ss_drop (so_app (t_pv c (by decide +kernel)) rfl (so_tup (by decide) (t_acons (t_call c (ok__law_figures z) (by decide) (by decide +kernel) (t_acons (so_ix (ir_ix c.cx) (fun _ _ => rfl) (t_sl c (by decide +kernel)) (t_ex (t_int))) rfl t_anil) rfl) rfl (t_acons (t_call c (ok__law_figures z) (by decide) (by decide +kernel) (t_acons (so_ix (ir_ix c.cx) (fun _ _ => rfl) (t_sl c (by decide +kernel)) (t_ex (t_int))) rfl t_anil) rfl) rfl t_anil))) rfl rfl) rfl)
    (sss_nil)))) (fun _ => rfl))
    (sss_cons (t_set c (by decide +kernel) (so_tup (by decide) (t_acons (t_var c (by decide +kernel)) rfl (t_acons (t_tuple_ c z.f_tuple (by decide +kernel) (t_ocons (t_sl c (by decide +kernel)) rfl t_onil) rfl) rfl t_anil))) rfl)
    (sss_cons (ss_ret (so_if (sv_tru c.cx (t_ex (t_call c (ok__law_are_games z) (by decide) (by decide +kernel) (t_acons (t_var c (by decide +kernel)) rfl t_anil) rfl)) (fun _ => rfl)) (t_var c (by decide +kernel)) (t_none)))
    (sss_nil))))))))
theorem ok__law_read_games {P : Program} {w : World} {base : Heap} {G : Gv} (z : Fx G) : FnG P w base G 3 "_law_read_games" 1 F__law_read_games :=
  t_def (N := [("text" : Str), ("rows" : Str), ("many" : Str), ("found" : Str), ("row" : Str), ("words" : Str), ("told" : Str)]) (ps := [("text" : Str)]) z.d__law_read_games ⟨rfl, rfl, rfl, by decide +kernel, rfl, by decide +kernel, by decide +kernel⟩ z.g__law_read_games (fun _ _ _ _ _ _ us hl => match us, hl with | [_], _ => rfl) fun X c => bd__law_read_games z X c
/-! _law_games_text -/
def b__law_games_text : SW := sSeq (sRet (oPrim (lift2 pAdd) [.ex (oPrim (lift2 pAdd) [.ex (oPrim (lift2 pAdd) [.ex (oC (.str ("players " : Str))), .ex (oPrim (lift1 pStr) [.ex (oPrim (lift2 pIx) [.sl 0, .ex (oC (.int 0))])])]), .ex (oC (.str ("\n" : Str)))]), .ex (oMeth (lift2 pJoin) (.ex (oC (.str ("" : Str)))) [.ex (oComp [1, 2] (iSeq (oPrim (lift2 pIx) [.sl 0, .ex (oC (.int 1))])) (gTup [gNm 1, gNm 2]) (tTrue) (oPrim (lift2 pAdd) [.ex (oPrim (lift2 pAdd) [.ex (oPrim (lift2 pAdd) [.ex (oPrim (lift1 pStr) [.sl 1]), .ex (oC (.str (" beat " : Str)))]), .ex (oPrim (lift1 pStr) [.sl 2])]), .ex (oC (.str ("\n" : Str)))]))])])) (sNext)
def F__law_games_text : FW := fnW 3 b__law_games_text
theorem bd__law_games_text {P : Program} {w : World} {base : Heap} {G : Gv} (z : Fx G) (X : Cx) (c : CT X P w base G 0 [("games" : Str), ("one" : Str), ("two" : Str)] (defScope (top 57)) (defScope (top 57))) : SSs X G (defBody (top 57)) b__law_games_text :=
  sss_cons (ss_ret (so_bin or_add (t_ex (so_bin or_add (t_ex (so_bin or_add (t_ex (t_str)) (t_ex (t_str_ c z.f_str (by decide +kernel) (t_ocons (t_ex (so_ix (ir_ix c.cx) (fun _ _ => rfl) (t_sl c (by decide +kernel)) (t_ex (t_int)))) rfl t_onil) rfl)))) (t_ex (t_str)))) (t_ex (t_join c (t_ex (t_str)) (t_ex (t_comp c [(("one" : Str), 1), (("two" : Str), 2)] (t_iseq c (so_ix (ir_ix c.cx) (fun _ _ => rfl) (t_sl c (by decide +kernel)) (t_ex (t_int)))) (by decide +kernel) (by decide +kernel) (fun _ d1 => t_gtup d1 (sgs_cons (t_gnm d1 (by decide +kernel)) (sgs_cons (t_gnm d1 (by decide +kernel)) sgs_nil rfl) rfl) rfl rfl) (fun _ d1 => st_nil) (fun _ d1 => so_bin or_add (t_ex (so_bin or_add (t_ex (so_bin or_add (t_ex (t_str_ d1 z.f_str (by decide +kernel) (t_ocons (t_sl d1 (by decide +kernel)) rfl t_onil) rfl)) (t_ex (t_str)))) (t_ex (t_str_ d1 z.f_str (by decide +kernel) (t_ocons (t_sl d1 (by decide +kernel)) rfl t_onil) rfl)))) (t_ex (t_str))) (fun _ _ => rfl))) rfl rfl rfl))))
    (sss_nil)
theorem ok__law_games_text {P : Program} {w : World} {base : Heap} {G : Gv} (z : Fx G) : FnG P w base G 1 "_law_games_text" 1 F__law_games_text :=
  t_def (N := [("games" : Str), ("one" : Str), ("two" : Str)]) (ps := [("games" : Str)]) z.d__law_games_text ⟨rfl, rfl, rfl, by decide +kernel, rfl, by decide +kernel, by decide +kernel⟩ z.g__law_games_text (fun _ _ _ _ _ _ us hl => match us, hl with | [_], _ => rfl) fun X c => bd__law_games_text z X c
/-! _law_list_text -/
def b__law_list_text : SW := sSeq (sRet (oMeth (lift2 pJoin) (.ex (oC (.str (" " : Str)))) [.ex (oComp [1] (iSeq (oVar 0)) (gNm 1) (tTrue) (oPrim (lift1 pStr) [.sl 1]))])) (sNext)
def F__law_list_text : FW := fnW 2 b__law_list_text
theorem bd__law_list_text {P : Program} {w : World} {base : Heap} {G : Gv} (z : Fx G) (X : Cx) (c : CT X P w base G 0 [("numbers" : Str), ("number" : Str)] (defScope (top 58)) (defScope (top 58))) : SSs X G (defBody (top 58)) b__law_list_text :=
  sss_cons (ss_ret (t_join c (t_ex (t_str)) (t_ex (t_comp c [(("number" : Str), 1)] (t_iseq c (t_var c (by decide +kernel))) (by decide +kernel) (by decide +kernel) (fun _ d1 => t_gnm d1 (by decide +kernel)) (fun _ d1 => st_nil) (fun _ d1 => t_str_ d1 z.f_str (by decide +kernel) (t_ocons (t_sl d1 (by decide +kernel)) rfl t_onil) rfl) (fun _ _ => rfl))) rfl rfl rfl))
    (sss_nil)
theorem ok__law_list_text {P : Program} {w : World} {base : Heap} {G : Gv} (z : Fx G) : FnG P w base G 1 "_law_list_text" 1 F__law_list_text :=
  t_def (N := [("numbers" : Str), ("number" : Str)]) (ps := [("numbers" : Str)]) z.d__law_list_text ⟨rfl, rfl, rfl, by decide +kernel, rfl, by decide +kernel, by decide +kernel⟩ z.g__law_list_text (fun _ _ _ _ _ _ us hl => match us, hl with | [_], _ => rfl) fun X c => bd__law_list_text z X c
theorem okk_games_text_games {P : Program} {w : World} {base : Heap} {G : Gv} (z : Fx G) : FnK P w base G 7 "games_text" [("games" : Str)] [0] 1 F_games_text :=
  t_defK (N := [("games" : Str)]) (ps := [("games" : Str)]) z.d_games_text ⟨rfl, rfl, rfl, by decide +kernel, rfl, by decide +kernel, by decide +kernel⟩ z.g_games_text (fun _ _ _ _ _ _ us hl => match us, hl with | [_], _ => rfl) fun X c => bd_games_text z X c
theorem okk_read_games_text {P : Program} {w : World} {base : Heap} {G : Gv} (z : Fx G) : FnK P w base G 7 "read_games" [("text" : Str)] [0] 1 F_read_games :=
  t_defK (N := [("text" : Str), ("found" : Str)]) (ps := [("text" : Str)]) z.d_read_games ⟨rfl, rfl, rfl, by decide +kernel, rfl, by decide +kernel, by decide +kernel⟩ z.g_read_games (fun _ _ _ _ _ _ us hl => match us, hl with | [_], _ => rfl) fun X c => bd_read_games z X c
theorem okk_list_text_numbers {P : Program} {w : World} {base : Heap} {G : Gv} (z : Fx G) : FnK P w base G 5 "list_text" [("numbers" : Str)] [0] 1 F_list_text :=
  t_defK (N := [("numbers" : Str)]) (ps := [("numbers" : Str)]) z.d_list_text ⟨rfl, rfl, rfl, by decide +kernel, rfl, by decide +kernel, by decide +kernel⟩ z.g_list_text (fun _ _ _ _ _ _ us hl => match us, hl with | [_], _ => rfl) fun X c => bd_list_text z X c
theorem okk_read_list_text {P : Program} {w : World} {base : Heap} {G : Gv} (z : Fx G) : FnK P w base G 4 "read_list" [("text" : Str)] [0] 1 F_read_list :=
  t_defK (N := [("text" : Str), ("found" : Str)]) (ps := [("text" : Str)]) z.d_read_list ⟨rfl, rfl, rfl, by decide +kernel, rfl, by decide +kernel, by decide +kernel⟩ z.g_read_list (fun _ _ _ _ _ _ us hl => match us, hl with | [_], _ => rfl) fun X c => bd_read_list z X c
/-! _law_is_told -/
def b__law_is_told : SW := sSeq (sPar [2, 3] [oCall 1 F__law_games_text [oVar 1], oCall 1 F__law_points [oVar 1]]) (sSeq (sSet 4 (oIf (tOf (oPrim (lift2 (pEq false)) [.ex (oCall 2 F__law_take [oVar 0, oC (.int 2)]), .ex (oC (.int 0))])) (oCall 1 F_games_text [oVar 1]) (oCallK 1 F_games_text [0] [oVar 1]))) (sSeq (sSet 5 (oIf (tOf (oPrim (lift2 (pEq false)) [.ex (oCall 2 F__law_take [oVar 0, oC (.int 2)]), .ex (oC (.int 0))])) (oCall 1 F_read_games [oVar 2]) (oCallK 1 F_read_games [0] [oVar 2]))) (sSeq (sIf (tOrW (tNotW (tTru (.ex (oCall 2 (F__law_same 8) [oLst [oVar 4, oVar 5, oCall 1 F_games_text [oVar 5]], oLst [oVar 2, oVar 1, oVar 2]])))) (tOf (oPrim (lift2 (pEq true)) [.ex (oCall 1 F__law_read_games [oVar 2]), .sl 1]))) (sSeq (sRet (oC (.bl false))) (sNext)) (sNext)) (sSeq (sIf (tOf (oPrim (lift2 (pEq false)) [.ex (oCall 2 F__law_take [oVar 0, oC (.int 4)]), .ex (oC (.int 0))])) (sSeq (sSet 3 (oPrim (lift1 pTuple) [.ex (oComp [6] (iSeq (oVar 3)) (gNm 6) (tTrue) (oPrim (lift2 pAdd) [.ex (oPrim (lift2 pMul) [.ex (oCall 2 F__law_take [oVar 0, oC (.int 1000)]), .ex (oPrim (lift2 pPow) [.ex (oC (.int 10)), .ex (oC (.int 29))])]), .sl 6]))])) (sNext)) (sSeq (sIf (tNotW (tTru (.ex (oCall 2 (F__law_same 8) [oCall 1 F_points [oVar 1], oVar 3])))) (sSeq (sRet (oC (.bl false))) (sNext)) (sNext)) (sNext))) (sSeq (sSet 7 (oIf (tOf (oPrim (lift2 (pEq false)) [.ex (oCall 2 F__law_take [oVar 0, oC (.int 2)]), .ex (oC (.int 0))])) (oCall 1 F_list_text [oVar 3]) (oCallK 1 F_list_text [0] [oVar 3]))) (sSeq (sRet (oCall 2 (F__law_same 8) [oLst [oVar 7, oCall 1 F_read_list [oVar 7], oCallK 1 F_read_list [0] [oVar 7]], oLst [oCall 1 F__law_list_text [oVar 3], oVar 3, oVar 3]])) (sNext)))))))
def F__law_is_told : FW := fnW 8 b__law_is_told
theorem bd__law_is_told {P : Program} {w : World} {base : Heap} {G : Gv} (z : Fx G) (X : Cx) (c : CT X P w base G 8 [("well" : Str), ("games" : Str), ("due" : Str), ("numbers" : Str), ("told" : Str), ("back" : Str), ("number" : Str), ("line" : Str)] (defScope (top 59)) (defScope (top 59))) : SSs X G (defBody (top 59)) b__law_is_told :=
  sss_cons (t_par2 c (by decide +kernel) (by decide +kernel) (by decide) (by decide +kernel) (by decide +kernel) (t_acons (t_call c (ok__law_games_text z) (by decide) (by decide +kernel) (t_acons (t_var c (by decide +kernel)) rfl t_anil) rfl) rfl (t_acons (t_call c (ok__law_points z) (by decide) (by decide +kernel) (t_acons (t_var c (by decide +kernel)) rfl t_anil) rfl) rfl t_anil)) (fun _ => rfl))
    (sss_cons (t_set c (by decide +kernel) (so_if (sv_cmp (or_eq c.cx) (t_ex (t_call c (ok__law_take z) (by decide) (by decide +kernel) (t_acons (t_var c (by decide +kernel)) rfl (t_acons (t_int) rfl t_anil)) rfl)) (t_ex (t_int)) rfl) (t_call c (ok_games_text z) (by decide) (by decide +kernel) (t_acons (t_var c (by decide +kernel)) rfl t_anil) rfl) (t_callK c (okk_games_text_games z) (by decide) (by decide +kernel) (t_kcons (t_var c (by decide +kernel)) t_knil) rfl rfl)) rfl)
    (sss_cons (t_set c (by decide +kernel) (so_if (sv_cmp (or_eq c.cx) (t_ex (t_call c (ok__law_take z) (by decide) (by decide +kernel) (t_acons (t_var c (by decide +kernel)) rfl (t_acons (t_int) rfl t_anil)) rfl)) (t_ex (t_int)) rfl) (t_call c (ok_read_games z) (by decide) (by decide +kernel) (t_acons (t_var c (by decide +kernel)) rfl t_anil) rfl) (t_callK c (okk_read_games_text z) (by decide) (by decide +kernel) (t_kcons (t_var c (by decide +kernel)) t_knil) rfl rfl)) rfl)
    (sss_cons (ss_if (PW.pt (sw_or (sv_not (sv_tru c.cx (t_ex (t_call c (okn__law_same z 8) (by decide) (by decide +kernel) (t_acons (so_lst (by decide) (t_acons (t_var c (by decide +kernel)) rfl (t_acons (t_var c (by decide +kernel)) rfl (t_acons (t_call c (ok_games_text z) (by decide) (by decide +kernel) (t_acons (t_var c (by decide +kernel)) rfl t_anil) rfl) rfl t_anil)))) rfl (t_acons (so_lst (by decide) (t_acons (t_var c (by decide +kernel)) rfl (t_acons (t_var c (by decide +kernel)) rfl (t_acons (t_var c (by decide +kernel)) rfl t_anil)))) rfl t_anil)) rfl)) (fun _ => rfl))) (sw_or1 (sv_cmp (or_ne c.cx) (t_ex (t_call c (ok__law_read_games z) (by decide) (by decide +kernel) (t_acons (t_var c (by decide +kernel)) rfl t_anil) rfl)) (t_sl c (by decide +kernel)) rfl)))) (sss_cons (ss_ret (t_bl))
    (sss_nil)) (sss_nil))
    (sss_cons (ss_if (sv_cmp (or_eq c.cx) (t_ex (t_call c (ok__law_take z) (by decide) (by decide +kernel) (t_acons (t_var c (by decide +kernel)) rfl (t_acons (t_int) rfl t_anil)) rfl)) (t_ex (t_int)) rfl) (sss_cons (t_set c (by decide +kernel) (t_tuple_ c z.f_tuple (by decide +kernel) (t_ocons (t_ex (t_comp c [(("number" : Str), 6)] (t_iseq c (t_var c (by decide +kernel))) (by decide +kernel) (by decide +kernel) (fun _ d1 => t_gnm d1 (by decide +kernel)) (fun _ d1 => st_nil) (fun _ d1 => so_bin or_add (t_ex (so_bin or_mul (t_ex (t_call d1 (ok__law_take z) (by decide) (by decide +kernel) (t_acons (t_var d1 (by decide +kernel)) rfl (t_acons (t_int) rfl t_anil)) rfl)) (t_ex (so_bin or_pow (t_ex (t_int)) (t_ex (t_int)))))) (t_sl d1 (by decide +kernel))) (fun _ _ => rfl))) rfl t_onil) rfl) rfl)
    (sss_nil)) (sss_cons (ss_if (sv_not (sv_tru c.cx (t_ex (t_call c (okn__law_same z 8) (by decide) (by decide +kernel) (t_acons (t_call c (ok_points z) (by decide) (by decide +kernel) (t_acons (t_var c (by decide +kernel)) rfl t_anil) rfl) rfl (t_acons (t_var c (by decide +kernel)) rfl t_anil)) rfl)) (fun _ => rfl))) (sss_cons (ss_ret (t_bl))
    (sss_nil)) (sss_nil))
    (sss_nil)))
    (sss_cons (t_set c (by decide +kernel) (so_if (sv_cmp (or_eq c.cx) (t_ex (t_call c (ok__law_take z) (by decide) (by decide +kernel) (t_acons (t_var c (by decide +kernel)) rfl (t_acons (t_int) rfl t_anil)) rfl)) (t_ex (t_int)) rfl) (t_call c (ok_list_text z) (by decide) (by decide +kernel) (t_acons (t_var c (by decide +kernel)) rfl t_anil) rfl) (t_callK c (okk_list_text_numbers z) (by decide) (by decide +kernel) (t_kcons (t_var c (by decide +kernel)) t_knil) rfl rfl)) rfl)
    (sss_cons (ss_ret (t_call c (okn__law_same z 8) (by decide) (by decide +kernel) (t_acons (so_lst (by decide) (t_acons (t_var c (by decide +kernel)) rfl (t_acons (t_call c (ok_read_list z) (by decide) (by decide +kernel) (t_acons (t_var c (by decide +kernel)) rfl t_anil) rfl) rfl (t_acons (t_callK c (okk_read_list_text z) (by decide) (by decide +kernel) (t_kcons (t_var c (by decide +kernel)) t_knil) rfl rfl) rfl t_anil)))) rfl (t_acons (so_lst (by decide) (t_acons (t_call c (ok__law_list_text z) (by decide) (by decide +kernel) (t_acons (t_var c (by decide +kernel)) rfl t_anil) rfl) rfl (t_acons (t_var c (by decide +kernel)) rfl (t_acons (t_var c (by decide +kernel)) rfl t_anil)))) rfl t_anil)) rfl))
    (sss_nil)))))))
theorem ok__law_is_told {P : Program} {w : World} {base : Heap} {G : Gv} (z : Fx G) : FnG P w base G 9 "_law_is_told" 2 F__law_is_told :=
  t_def (N := [("well" : Str), ("games" : Str), ("due" : Str), ("numbers" : Str), ("told" : Str), ("back" : Str), ("number" : Str), ("line" : Str)]) (ps := [("well" : Str), ("games" : Str)]) z.d__law_is_told ⟨rfl, rfl, rfl, by decide +kernel, rfl, by decide +kernel, by decide +kernel⟩ z.g__law_is_told (fun _ _ _ _ _ _ us hl => match us, hl with | [_, _], _ => rfl) fun X c => bd__law_is_told z X c
/-! _law_right -/
def b__law_right : SW := sSeq (sSet 1 (oDict0)) (sSeq (sFor (iRange1 (oC (.int 20))) (gNm 2) (sSeq (sSet 3 (oPrim (lift2 pAdd) [.ex (oC (.int 1)), .ex (oCall 2 F__law_take [oVar 0, oC (.int 8)])])) (sSeq (sSet 4 (oIf (tOf (oPrim (lift2 (pEq false)) [.ex (oCall 2 F__law_take [oVar 0, oC (.int 3)]), .ex (oC (.int 0))])) (oCall 2 F__law_results [oVar 0, oVar 3]) (oCall 3 F__law_games [oVar 0, oVar 3, oCall 2 F__law_take [oVar 0, oC (.int 10)]]))) (sSeq (sIf (tNotW (tTru (.ex (oCall 2 F__law_is_told [oVar 0, oVar 4])))) (sSeq (sRet (oC (.bl false))) (sNext)) (sNext)) (sSeq (sSet 5 (oCall 1 F_games_text [oVar 4])) (sSeq (sIf (tOf (oPrim (lift2 (pEq true)) [.ex (oGet2 (.sl 1) (oVar 5) (oVar 4)), .sl 4])) (sSeq (sRet (oC (.bl false))) (sNext)) (sNext)) (sSeq (sTgt (gPut 1 (.sl 5)) (oVar 4)) (sNext)))))))) (sSeq (sRet (oCall 2 (F__law_same 8) [oLst [oCall 1 F_games_text [oTup [oC (.int 1), oTup []]], oCall 1 F_read_games [oC (.str ("players 8\n" : Str))], oCall 1 F_list_text [oTup [oC (.int 0)]], oCall 1 F_read_list [oC (.str ("7" : Str))]], oLst [oC (.str ("players 1\n" : Str)), oTup [oC (.int 8), oTup []], oC (.str ("0" : Str)), oTup [oC (.int 7)]]])) (sNext)))
def F__law_right : FW := fnW 6 b__law_right
theorem bd__law_right {P : Program} {w : World} {base : Heap} {G : Gv} (z : Fx G) (X : Cx) (c : CT X P w base G 9 [("well" : Str), ("seen" : Str), ("turn" : Str), ("many" : Str), ("games" : Str), ("text" : Str)] (defScope (top 60)) (defScope (top 60))) : SSs X G (defBody (top 60)) b__law_right :=
  sss_cons (t_set c (by decide +kernel) (so_dict0) rfl)
    (sss_cons (ss_for c.cx (t_irange1 c z.f_range (by decide +kernel) (t_int) rfl) (t_gnm c (by decide +kernel)) (sss_cons (t_set c (by decide +kernel) (so_bin or_add (t_ex (t_int)) (t_ex (t_call c (ok__law_take z) (by decide) (by decide +kernel) (t_acons (t_var c (by decide +kernel)) rfl (t_acons (t_int) rfl t_anil)) rfl))) rfl)
    (sss_cons (t_set c (by decide +kernel) (so_if (sv_cmp (or_eq c.cx) (t_ex (t_call c (ok__law_take z) (by decide) (by decide +kernel) (t_acons (t_var c (by decide +kernel)) rfl (t_acons (t_int) rfl t_anil)) rfl)) (t_ex (t_int)) rfl) (t_call c (ok__law_results z) (by decide) (by decide +kernel) (t_acons (t_var c (by decide +kernel)) rfl (t_acons (t_var c (by decide +kernel)) rfl t_anil)) rfl) (t_call c (ok__law_games z) (by decide) (by decide +kernel) (t_acons (t_var c (by decide +kernel)) rfl (t_acons (t_var c (by decide +kernel)) rfl (t_acons (t_call c (ok__law_take z) (by decide) (by decide +kernel) (t_acons (t_var c (by decide +kernel)) rfl (t_acons (t_int) rfl t_anil)) rfl) rfl t_anil))) rfl)) rfl)
    (sss_cons (ss_if (sv_not (sv_tru c.cx (t_ex (t_call c (ok__law_is_told z) (by decide) (by decide +kernel) (t_acons (t_var c (by decide +kernel)) rfl (t_acons (t_var c (by decide +kernel)) rfl t_anil)) rfl)) (fun _ => rfl))) (sss_cons (ss_ret (t_bl))
    (sss_nil)) (sss_nil))
    (sss_cons (t_set c (by decide +kernel) (t_call c (ok_games_text z) (by decide) (by decide +kernel) (t_acons (t_var c (by decide +kernel)) rfl t_anil) rfl) rfl)
    (sss_cons (ss_if (sv_cmp (or_ne c.cx) (t_ex (so_get2 c.cx (t_sl c (by decide +kernel)) (t_var c (by decide +kernel)) (t_var c (by decide +kernel)) rfl rfl rfl rfl)) (t_sl c (by decide +kernel)) rfl) (sss_cons (ss_ret (t_bl))
    (sss_nil)) (sss_nil))
    (sss_cons (t_tgt c (t_var c (by decide +kernel)) (t_gput c (by decide +kernel) (t_sl c (by decide +kernel)) rfl) rfl rfl (fun _ => rfl))
    (sss_nil))))))) (fun _ => rfl))
    (sss_cons (ss_ret (t_call c (okn__law_same z 8) (by decide) (by decide +kernel) (t_acons (so_lst (by decide) (t_acons (t_call c (ok_games_text z) (by decide) (by decide +kernel) (t_acons (so_tup (by decide) (t_acons (t_int) rfl (t_acons (so_tup (by decide) t_anil) rfl t_anil))) rfl t_anil) rfl) rfl (t_acons (t_call c (ok_read_games z) (by decide) (by decide +kernel) (t_acons (t_str) rfl t_anil) rfl) rfl (t_acons (t_call c (ok_list_text z) (by decide) (by decide +kernel) (t_acons (so_tup (by decide) (t_acons (t_int) rfl t_anil)) rfl t_anil) rfl) rfl (t_acons (t_call c (ok_read_list z) (by decide) (by decide +kernel) (t_acons (t_str) rfl t_anil) rfl) rfl t_anil))))) rfl (t_acons (so_lst (by decide) (t_acons (t_str) rfl (t_acons (so_tup (by decide) (t_acons (t_int) rfl (t_acons (so_tup (by decide) t_anil) rfl t_anil))) rfl (t_acons (t_str) rfl (t_acons (so_tup (by decide) (t_acons (t_int) rfl t_anil)) rfl t_anil))))) rfl t_anil)) rfl))
    (sss_nil)))
theorem ok__law_right {P : Program} {w : World} {base : Heap} {G : Gv} (z : Fx G) : FnG P w base G 10 "_law_right" 1 F__law_right :=
  t_def (N := [("well" : Str), ("seen" : Str), ("turn" : Str), ("many" : Str), ("games" : Str), ("text" : Str)]) (ps := [("well" : Str)]) z.d__law_right ⟨rfl, rfl, rfl, by decide +kernel, rfl, by decide +kernel, by decide +kernel⟩ z.g__law_right (fun _ _ _ _ _ _ us hl => match us, hl with | [_], _ => rfl) fun X c => bd__law_right z X c
/-! law -/
def b_law : SW := sSeq (sRet (oPrim (lift1 pAll) [.ex (oComp [1] (iRange1 (oPrim (pMax) [.ex (oC (.int 2)), .ex (oPrim (pMin) [.ex (oPrim (lift1 pLen) [.sl 0]), .ex (oC (.int 3))])])) (gNm 1) (tTrue) (oCall 1 F__law_right [oCall 2 S__law_well [oVar 0, oVar 1]]))])) (sNext)
def F_law : FW := fnW 2 b_law
theorem bd_law {P : Program} {w : World} {base : Heap} {G : Gv} (z : Fx G) (X : Cx) (c : CT X P w base G 10 [("script" : Str), ("lap" : Str)] (defScope (top 61)) (defScope (top 61))) : SSs X G (defBody (top 61)) b_law :=
  sss_cons (ss_ret (t_all c z.f_all (by decide +kernel) (t_ocons (t_ex (t_comp c [(("lap" : Str), 1)] (t_irange1 c z.f_range (by decide +kernel) (t_max c z.f_max (by decide +kernel) (t_ocons (t_ex (t_int)) rfl (t_ocons (t_ex (t_min c z.f_min (by decide +kernel) (t_ocons (t_ex (t_len c z.f_len (by decide +kernel) (t_ocons (t_sl c (by decide +kernel)) rfl t_onil) rfl)) rfl (t_ocons (t_ex (t_int)) rfl t_onil)) rfl)) rfl t_onil)) rfl) rfl) (by decide +kernel) (by decide +kernel) (fun _ d1 => t_gnm d1 (by decide +kernel)) (fun _ d1 => st_nil) (fun _ d1 => t_call d1 (ok__law_right z) (by decide) (by decide +kernel) (t_acons (t_call d1 (s__law_well z) (by decide) (by decide +kernel) (t_acons (t_var d1 (by decide +kernel)) rfl (t_acons (t_var d1 (by decide +kernel)) rfl t_anil)) rfl) rfl t_anil) rfl) (fun _ _ => rfl))) rfl t_onil) rfl))
    (sss_nil)
theorem ok_law {P : Program} {w : World} {base : Heap} {G : Gv} (z : Fx G) : FnG P w base G 11 "law" 1 F_law :=
  t_def (N := [("script" : Str), ("lap" : Str)]) (ps := [("script" : Str)]) z.d_law ⟨rfl, rfl, rfl, by decide +kernel, rfl, by decide +kernel, by decide +kernel⟩ z.g_law (fun _ _ _ _ _ _ us hl => match us, hl with | [_], _ => rfl) fun X c => bd_law z X c
theorem facts_law : FnScope [("script" : Str), ("lap" : Str)] [("script" : Str)] (defScope (top 61)) := ⟨rfl, rfl, rfl, by decide +kernel, rfl, by decide +kernel, by decide +kernel⟩
def faL : List He.Fa := [.glo "is_whole", .glo "is_between", .glo "is_number", .glo "is_tuple_of", .glo "are_rising", .glo "first_wrong", .glo "is_win", .glo "are_wins", .glo "are_games_by", .glo "players_of", .glo "points_by", .glo "check_games", .glo "check_numbers", .glo "is_figures", .glo "numbers_in", .glo "text_of_numbers", .glo "list_with_text", .glo "text_of_games", .glo "win_in", .glo "many_in", .glo "games_with_text", .glo "games_text", .glo "read_games", .glo "list_text", .glo "read_list", .glo "points", .glo "_law_well", .glo "_law_take", .glo "_law_same", .glo "_law_pairs", .glo "_law_games", .glo "_law_results", .glo "_law_points", .glo "_law_is_up_to", .glo "_law_are_games", .glo "_law_figures", .glo "_law_read_games", .glo "_law_games_text", .glo "_law_list_text", .glo "_law_is_told", .glo "_law_right", .glo "law", .int "MOST_PLAYERS" 8, .int "MANY" 0, .int "WINS" 1, .str "FIGURES" ("0123456789" : Str), .str "BLANK" (" " : Str), .str "END" ("\n" : Str), .str "PLAYERS_WORD" ("players" : Str), .str "BEAT_WORD" ("beat" : Str), .free "abs", .free "all", .free "any", .free "bool", .free "dict", .free "divmod", .free "enumerate", .free "int", .free "isinstance", .free "len", .free "list", .free "max", .free "min", .free "range", .free "sorted", .free "str", .free "tuple"]
def fnL : List He.DefD := [⟨("is_whole", none), "is_whole", "is_whole", defArgs (top 6), defBody (top 6), defScope (top 6), [], []⟩, ⟨("is_between", none), "is_between", "is_between", defArgs (top 7), defBody (top 7), defScope (top 7), [], []⟩, ⟨("is_number", none), "is_number", "is_number", defArgs (top 8), defBody (top 8), defScope (top 8), [], []⟩, ⟨("is_tuple_of", none), "is_tuple_of", "is_tuple_of", defArgs (top 9), defBody (top 9), defScope (top 9), [], []⟩, ⟨("are_rising", none), "are_rising", "are_rising", defArgs (top 10), defBody (top 10), defScope (top 10), [], []⟩, ⟨("first_wrong", none), "first_wrong", "first_wrong", defArgs (top 11), defBody (top 11), defScope (top 11), [], []⟩, ⟨("is_win", none), "is_win", "is_win", defArgs (top 16), defBody (top 16), defScope (top 16), [], []⟩, ⟨("are_wins", none), "are_wins", "are_wins", defArgs (top 17), defBody (top 17), defScope (top 17), [], []⟩, ⟨("are_games_by", none), "are_games_by", "are_games_by", defArgs (top 18), defBody (top 18), defScope (top 18), [], []⟩, ⟨("players_of", none), "players_of", "players_of", defArgs (top 19), defBody (top 19), defScope (top 19), [], []⟩, ⟨("points_by", none), "points_by", "points_by", defArgs (top 20), defBody (top 20), defScope (top 20), [], []⟩, ⟨("check_games", none), "check_games", "check_games", defArgs (top 22), defBody (top 22), defScope (top 22), [], []⟩, ⟨("check_numbers", none), "check_numbers", "check_numbers", defArgs (top 23), defBody (top 23), defScope (top 23), [], []⟩, ⟨("is_figures", none), "is_figures", "is_figures", defArgs (top 30), defBody (top 30), defScope (top 30), [], []⟩, ⟨("numbers_in", none), "numbers_in", "numbers_in", defArgs (top 31), defBody (top 31), defScope (top 31), [], []⟩, ⟨("text_of_numbers", none), "text_of_numbers", "text_of_numbers", defArgs (top 32), defBody (top 32), defScope (top 32), [], []⟩, ⟨("list_with_text", none), "list_with_text", "list_with_text", defArgs (top 33), defBody (top 33), defScope (top 33), [], []⟩, ⟨("text_of_games", none), "text_of_games", "text_of_games", defArgs (top 34), defBody (top 34), defScope (top 34), [], []⟩, ⟨("win_in", none), "win_in", "win_in", defArgs (top 35), defBody (top 35), defScope (top 35), [], []⟩, ⟨("many_in", none), "many_in", "many_in", defArgs (top 36), defBody (top 36), defScope (top 36), [], []⟩, ⟨("games_with_text", none), "games_with_text", "games_with_text", defArgs (top 37), defBody (top 37), defScope (top 37), [], []⟩, ⟨("games_text", none), "games_text", "games_text", defArgs (top 39), defBody (top 39), defScope (top 39), [], []⟩, ⟨("read_games", none), "read_games", "read_games", defArgs (top 40), defBody (top 40), defScope (top 40), [], []⟩, ⟨("list_text", none), "list_text", "list_text", defArgs (top 41), defBody (top 41), defScope (top 41), [], []⟩, ⟨("read_list", none), "read_list", "read_list", defArgs (top 42), defBody (top 42), defScope (top 42), [], []⟩, ⟨("points", none), "points", "points", defArgs (top 44), defBody (top 44), defScope (top 44), [], []⟩, ⟨("_law_well", none), "_law_well", "_law_well", defArgs (top 46), defBody (top 46), defScope (top 46), [], []⟩, ⟨("_law_take", none), "_law_take", "_law_take", defArgs (top 47), defBody (top 47), defScope (top 47), [], []⟩, ⟨("_law_same", none), "_law_same", "_law_same", defArgs (top 48), defBody (top 48), defScope (top 48), [], []⟩, ⟨("_law_pairs", none), "_law_pairs", "_law_pairs", defArgs (top 49), defBody (top 49), defScope (top 49), [], []⟩, ⟨("_law_games", none), "_law_games", "_law_games", defArgs (top 50), defBody (top 50), defScope (top 50), [], []⟩, ⟨("_law_results", none), "_law_results", "_law_results", defArgs (top 51), defBody (top 51), defScope (top 51), [], []⟩, ⟨("_law_points", none), "_law_points", "_law_points", defArgs (top 52), defBody (top 52), defScope (top 52), [], []⟩, ⟨("_law_is_up_to", none), "_law_is_up_to", "_law_is_up_to", defArgs (top 53), defBody (top 53), defScope (top 53), [], []⟩, ⟨("_law_are_games", none), "_law_are_games", "_law_are_games", defArgs (top 54), defBody (top 54), defScope (top 54), [], []⟩, ⟨("_law_figures", none), "_law_figures", "_law_figures", defArgs (top 55), defBody (top 55), defScope (top 55), [], []⟩, ⟨("_law_read_games", none), "_law_read_games", "_law_read_games", defArgs (top 56), defBody (top 56), defScope (top 56), [], []⟩, ⟨("_law_games_text", none), "_law_games_text", "_law_games_text", defArgs (top 57), defBody (top 57), defScope (top 57), [], []⟩, ⟨("_law_list_text", none), "_law_list_text", "_law_list_text", defArgs (top 58), defBody (top 58), defScope (top 58), [], []⟩, ⟨("_law_is_told", none), "_law_is_told", "_law_is_told", defArgs (top 59), defBody (top 59), defScope (top 59), [], []⟩, ⟨("_law_right", none), "_law_right", "_law_right", defArgs (top 60), defBody (top 60), defScope (top 60), [], []⟩, ⟨("law", none), "law", "law", defArgs (top 61), defBody (top 61), defScope (top 61), [], []⟩]
theorem fx_of {K : PySem.W.Frag} {h : Heap} {mg : Str → Option Value} (X : K.In h) (N : h.Ns mainGlobals mg) (c : He.SaysD faL fnL K) : Fx ⟨K, mg⟩ where
  d_is_whole := c.def_ 0 (h := rfl)
  d_is_between := c.def_ 1 (h := rfl)
  d_is_number := c.def_ 2 (h := rfl)
  d_is_tuple_of := c.def_ 3 (h := rfl)
  d_are_rising := c.def_ 4 (h := rfl)
  d_first_wrong := c.def_ 5 (h := rfl)
  d_is_win := c.def_ 6 (h := rfl)
  d_are_wins := c.def_ 7 (h := rfl)
  d_are_games_by := c.def_ 8 (h := rfl)
  d_players_of := c.def_ 9 (h := rfl)
  d_points_by := c.def_ 10 (h := rfl)
  d_check_games := c.def_ 11 (h := rfl)
  d_check_numbers := c.def_ 12 (h := rfl)
  d_is_figures := c.def_ 13 (h := rfl)
  d_numbers_in := c.def_ 14 (h := rfl)
  d_text_of_numbers := c.def_ 15 (h := rfl)
  d_list_with_text := c.def_ 16 (h := rfl)
  d_text_of_games := c.def_ 17 (h := rfl)
  d_win_in := c.def_ 18 (h := rfl)
  d_many_in := c.def_ 19 (h := rfl)
  d_games_with_text := c.def_ 20 (h := rfl)
  d_games_text := c.def_ 21 (h := rfl)
  d_read_games := c.def_ 22 (h := rfl)
  d_list_text := c.def_ 23 (h := rfl)
  d_read_list := c.def_ 24 (h := rfl)
  d_points := c.def_ 25 (h := rfl)
  d__law_well := c.def_ 26 (h := rfl)
  d__law_take := c.def_ 27 (h := rfl)
  d__law_same := c.def_ 28 (h := rfl)
  d__law_pairs := c.def_ 29 (h := rfl)
  d__law_games := c.def_ 30 (h := rfl)
  d__law_results := c.def_ 31 (h := rfl)
  d__law_points := c.def_ 32 (h := rfl)
  d__law_is_up_to := c.def_ 33 (h := rfl)
  d__law_are_games := c.def_ 34 (h := rfl)
  d__law_figures := c.def_ 35 (h := rfl)
  d__law_read_games := c.def_ 36 (h := rfl)
  d__law_games_text := c.def_ 37 (h := rfl)
  d__law_list_text := c.def_ 38 (h := rfl)
  d__law_is_told := c.def_ 39 (h := rfl)
  d__law_right := c.def_ 40 (h := rfl)
  d_law := c.def_ 41 (h := rfl)
  g_is_whole := He.glo_ok X N (c.fact 0 (f := .glo "is_whole") rfl)
  g_is_between := He.glo_ok X N (c.fact 1 (f := .glo "is_between") rfl)
  g_is_number := He.glo_ok X N (c.fact 2 (f := .glo "is_number") rfl)
  g_is_tuple_of := He.glo_ok X N (c.fact 3 (f := .glo "is_tuple_of") rfl)
  g_are_rising := He.glo_ok X N (c.fact 4 (f := .glo "are_rising") rfl)
  g_first_wrong := He.glo_ok X N (c.fact 5 (f := .glo "first_wrong") rfl)
  g_is_win := He.glo_ok X N (c.fact 6 (f := .glo "is_win") rfl)
  g_are_wins := He.glo_ok X N (c.fact 7 (f := .glo "are_wins") rfl)
  g_are_games_by := He.glo_ok X N (c.fact 8 (f := .glo "are_games_by") rfl)
  g_players_of := He.glo_ok X N (c.fact 9 (f := .glo "players_of") rfl)
  g_points_by := He.glo_ok X N (c.fact 10 (f := .glo "points_by") rfl)
  g_check_games := He.glo_ok X N (c.fact 11 (f := .glo "check_games") rfl)
  g_check_numbers := He.glo_ok X N (c.fact 12 (f := .glo "check_numbers") rfl)
  g_is_figures := He.glo_ok X N (c.fact 13 (f := .glo "is_figures") rfl)
  g_numbers_in := He.glo_ok X N (c.fact 14 (f := .glo "numbers_in") rfl)
  g_text_of_numbers := He.glo_ok X N (c.fact 15 (f := .glo "text_of_numbers") rfl)
  g_list_with_text := He.glo_ok X N (c.fact 16 (f := .glo "list_with_text") rfl)
  g_text_of_games := He.glo_ok X N (c.fact 17 (f := .glo "text_of_games") rfl)
  g_win_in := He.glo_ok X N (c.fact 18 (f := .glo "win_in") rfl)
  g_many_in := He.glo_ok X N (c.fact 19 (f := .glo "many_in") rfl)
  g_games_with_text := He.glo_ok X N (c.fact 20 (f := .glo "games_with_text") rfl)
  g_games_text := He.glo_ok X N (c.fact 21 (f := .glo "games_text") rfl)
  g_read_games := He.glo_ok X N (c.fact 22 (f := .glo "read_games") rfl)
  g_list_text := He.glo_ok X N (c.fact 23 (f := .glo "list_text") rfl)
  g_read_list := He.glo_ok X N (c.fact 24 (f := .glo "read_list") rfl)
  g_points := He.glo_ok X N (c.fact 25 (f := .glo "points") rfl)
  g__law_well := He.glo_ok X N (c.fact 26 (f := .glo "_law_well") rfl)
  g__law_take := He.glo_ok X N (c.fact 27 (f := .glo "_law_take") rfl)
  g__law_same := He.glo_ok X N (c.fact 28 (f := .glo "_law_same") rfl)
  g__law_pairs := He.glo_ok X N (c.fact 29 (f := .glo "_law_pairs") rfl)
  g__law_games := He.glo_ok X N (c.fact 30 (f := .glo "_law_games") rfl)
  g__law_results := He.glo_ok X N (c.fact 31 (f := .glo "_law_results") rfl)
  g__law_points := He.glo_ok X N (c.fact 32 (f := .glo "_law_points") rfl)
  g__law_is_up_to := He.glo_ok X N (c.fact 33 (f := .glo "_law_is_up_to") rfl)
  g__law_are_games := He.glo_ok X N (c.fact 34 (f := .glo "_law_are_games") rfl)
  g__law_figures := He.glo_ok X N (c.fact 35 (f := .glo "_law_figures") rfl)
  g__law_read_games := He.glo_ok X N (c.fact 36 (f := .glo "_law_read_games") rfl)
  g__law_games_text := He.glo_ok X N (c.fact 37 (f := .glo "_law_games_text") rfl)
  g__law_list_text := He.glo_ok X N (c.fact 38 (f := .glo "_law_list_text") rfl)
  g__law_is_told := He.glo_ok X N (c.fact 39 (f := .glo "_law_is_told") rfl)
  g__law_right := He.glo_ok X N (c.fact 40 (f := .glo "_law_right") rfl)
  g_law := He.glo_ok X N (c.fact 41 (f := .glo "law") rfl)
  c_MOST_PLAYERS := He.int_ok X N (c.fact 42 (f := .int "MOST_PLAYERS" 8) rfl)
  c_MANY := He.int_ok X N (c.fact 43 (f := .int "MANY" 0) rfl)
  c_WINS := He.int_ok X N (c.fact 44 (f := .int "WINS" 1) rfl)
  c_FIGURES := He.str_ok X N (c.fact 45 (f := .str "FIGURES" ("0123456789" : Str)) rfl)
  c_BLANK := He.str_ok X N (c.fact 46 (f := .str "BLANK" (" " : Str)) rfl)
  c_END := He.str_ok X N (c.fact 47 (f := .str "END" ("\n" : Str)) rfl)
  c_PLAYERS_WORD := He.str_ok X N (c.fact 48 (f := .str "PLAYERS_WORD" ("players" : Str)) rfl)
  c_BEAT_WORD := He.str_ok X N (c.fact 49 (f := .str "BEAT_WORD" ("beat" : Str)) rfl)
  f_abs := He.free_ok X N (c.fact 50 (f := .free "abs") rfl)
  f_all := He.free_ok X N (c.fact 51 (f := .free "all") rfl)
  f_any := He.free_ok X N (c.fact 52 (f := .free "any") rfl)
  f_bool := He.free_ok X N (c.fact 53 (f := .free "bool") rfl)
  f_dict := He.free_ok X N (c.fact 54 (f := .free "dict") rfl)
  f_divmod := He.free_ok X N (c.fact 55 (f := .free "divmod") rfl)
  f_enumerate := He.free_ok X N (c.fact 56 (f := .free "enumerate") rfl)
  f_int := He.free_ok X N (c.fact 57 (f := .free "int") rfl)
  f_isinstance := He.free_ok X N (c.fact 58 (f := .free "isinstance") rfl)
  f_len := He.free_ok X N (c.fact 59 (f := .free "len") rfl)
  f_list := He.free_ok X N (c.fact 60 (f := .free "list") rfl)
  f_max := He.free_ok X N (c.fact 61 (f := .free "max") rfl)
  f_min := He.free_ok X N (c.fact 62 (f := .free "min") rfl)
  f_range := He.free_ok X N (c.fact 63 (f := .free "range") rfl)
  f_sorted := He.free_ok X N (c.fact 64 (f := .free "sorted") rfl)
  f_str := He.free_ok X N (c.fact 65 (f := .free "str") rfl)
  f_tuple := He.free_ok X N (c.fact 66 (f := .free "tuple") rfl)
end ILaw

namespace ILaw
open PySem PySem.Spec PyProof.Rows L2 IL TL
/-! ### games -/
def pPV (p : Nat × Nat) : PV := .tup [.int p.1, .int p.2]
def gPV (m : Nat) (ws : List (Nat × Nat)) : PV := .tup [.int m, .tup (ws.map pPV)]
def ltP (p q : Nat × Nat) : Prop := p.1 < q.1 ∨ (p.1 = q.1 ∧ p.2 < q.2)
structure Good (m : Nat) (ws : List (Nat × Nat)) : Prop where
  m1 : 1 ≤ m
  m8 : m ≤ 8
  rng : ∀ p ∈ ws, p.1 < m ∧ p.2 < m ∧ p.1 ≠ p.2
  inc : ws.Pairwise ltP
  rev : ∀ p ∈ ws, (p.2, p.1) ∉ ws
  len : ws.length ≤ 64
/-! ### texts -/
def lineS (p : Nat × Nat) : Str := Txt.join " " [num p.1, "beat", num p.2]
def headS (m : Nat) : Str := Txt.join " " [("players" : Str), num m]
def linesS (m : Nat) (ws : List (Nat × Nat)) : List Str := headS m :: ws.map lineS
def gText (m : Nat) (ws : List (Nat × Nat)) : Str := Txt.join "" ((linesS m ws).map (· ++ "\n"))
theorem tlB : tl (" " : Str) = [32] := by decide +kernel
theorem tlN : tl ("\n" : Str) = [10] := by decide +kernel
theorem tlE : tl ("" : Str) = [] := by decide +kernel
theorem tlP : tl ("players" : Str) = [112, 108, 97, 121, 101, 114, 115] := by decide +kernel
theorem tlbeat : tl ("beat" : Str) = [98, 101, 97, 116] := by decide +kernel
theorem tl_line (p : Nat × Nat) : tl (lineS p) = numL p.1 ++ ([32, 98, 101, 97, 116, 32] ++ numL p.2) := by
  unfold lineS
  rw [tlJ, List.map_cons, List.map_cons, List.map_cons, List.map_nil, tl_num', tl_num', tlbeat, tlB]
  simp [joinL]
theorem tl_head (m : Nat) : tl (headS m) = [112, 108, 97, 121, 101, 114, 115, 32] ++ numL m := by
  unfold headS
  rw [tlJ, List.map_cons, List.map_cons, List.map_nil, tl_num', tlP, tlB]
  simp [joinL]
theorem line_free {p : Nat × Nat} : 10 ∉ tl (lineS p) := by
  rw [tl_line]
  simp [numL_free (n := p.1) (s := 10) (by omega), numL_free (n := p.2) (s := 10) (by omega)]
theorem head_free {m : Nat} : 10 ∉ tl (headS m) := by
  rw [tl_head]
  simp [numL_free (n := m) (s := 10) (by omega)]
theorem lines_free {m : Nat} {ws : List (Nat × Nat)} : ∀ x ∈ linesS m ws, 10 ∉ tl x := by
  intro x hx
  rcases List.mem_cons.mp hx with rfl | hx
  · exact head_free
  · obtain ⟨p, _, rfl⟩ := List.mem_map.mp hx
    exact line_free
theorem gText1 (m : Nat) (ws : List (Nat × Nat)) : tl (gText m ws) = tl (Txt.join "\n" (linesS m ws)) ++ [10] := by
  unfold gText
  rw [tlJ, tlJ, tlE, tlN, joinL_nil, List.map_map, joinL_end _ (by simp [linesS]), List.map_map]
  congr 1
  apply List.map_congr_left
  intro x _
  show tl (x ++ "\n") = _
  rw [tl_append, tlN]
  rfl
theorem gText2 (m : Nat) (ws : List (Nat × Nat)) : gText m ws = Txt.join "\n" (linesS m ws ++ [("" : Str)]) := by
  apply ext_tl
  rw [gText1, tlJ, tlJ, tlN, List.map_append, List.map_cons, List.map_nil, tlE, joinL_last _ (by simp [linesS])]
theorem split_g1 (m : Nat) (ws : List (Nat × Nat)) : Txt.split (gText m ws) "\n" = linesS m ws ++ [("" : Str)] := by
  rw [gText2]
  refine split1 tlN (by decide +kernel) (by simp) fun x hx => ?_
  rcases List.mem_append.mp hx with hx | hx
  · exact lines_free x hx
  · rw [List.mem_singleton.mp hx, tlE]
    simp
theorem split_g2 (m : Nat) (ws : List (Nat × Nat)) : Txt.split (Txt.join "\n" (linesS m ws)) "\n" = linesS m ws := split1 tlN (by decide +kernel) (by simp [linesS]) lines_free
theorem split_line (p : Nat × Nat) : Txt.split (lineS p) " " = [num p.1, "beat", num p.2] := split1 tlB (by decide +kernel) (by simp) fun x hx => by
  simp only [List.mem_cons, List.not_mem_nil, or_false] at hx
  rcases hx with rfl | rfl | rfl
  · rw [tl_num']; exact numL_free (by omega)
  · rw [tlbeat]; decide
  · rw [tl_num']; exact numL_free (by omega)
theorem split_head (m : Nat) : Txt.split (headS m) " " = [("players" : Str), num m] := split1 tlB (by decide +kernel) (by simp) fun x hx => by
  simp only [List.mem_cons, List.not_mem_nil, or_false] at hx
  rcases hx with rfl | rfl
  · rw [tlP]; decide
  · rw [tl_num']; exact numL_free (by omega)
theorem line_inj {p q : Nat × Nat} (h : lineS p = lineS q) : p = q := by
  have := split_line p
  rw [h, split_line q] at this
  injection this with h1 h2
  injection h2 with _ h2
  injection h2 with h2 _
  exact Prod.ext (num_inj h1).symm (num_inj h2).symm
theorem gText_inj {m m' : Nat} {ws ws' : List (Nat × Nat)} (h : gText m ws = gText m' ws') : m = m' ∧ ws = ws' := by
  have e := split_g1 m ws
  rw [h, split_g1 m' ws'] at e
  have e2 := List.append_cancel_right e
  injection e2 with h1 h2
  constructor
  · have := split_head m
    rw [← h1, split_head m'] at this
    injection this with _ h2
    injection h2 with h2 _
    exact (num_inj h2).symm
  · have : ∀ {l l' : List (Nat × Nat)}, l.map lineS = l'.map lineS → l = l' := by
      intro l
      induction l with
      | nil => intro l' h; cases l' with | nil => rfl | cons _ _ => simp at h
      | cons a l ih =>
        intro l' h
        cases l' with
        | nil => simp at h
        | cons b l' =>
          rw [List.map_cons, List.map_cons] at h
          injection h with h1 h2
          rw [line_inj h1, ih h2]
    exact (this h2).symm
theorem gText_len {m : Nat} {ws : List (Nat × Nat)} (g : Good m ws) : (gText m ws).length ≤ 5000 := by
  have hn : ∀ n, n < 100 → (numL n).length ≤ 2 := fun n h => numL_len (by decide) h
  rw [TL.len_tl, gText1, tlJ, tlN]
  have key : ∀ ps : List (List Nat), (∀ p ∈ ps, p.length ≤ 20) → (joinL [10] ps).length ≤ 21 * ps.length := by
    intro ps
    induction ps with
    | nil => intro _; exact Nat.zero_le _
    | cons p r ih =>
      intro h
      cases r with
      | nil => have := h p (by simp); simp [joinL]; omega
      | cons q r =>
        have h1 := h p (by simp)
        have h2 := ih fun x hx => h x (List.mem_cons_of_mem _ hx)
        show (p ++ ([10] ++ joinL [10] (q :: r))).length ≤ _
        simp only [List.length_append, List.length_cons, List.length_nil] at h2 ⊢
        omega
  have h2 := key ((linesS m ws).map tl) fun x hx => by
    obtain ⟨y, hy, rfl⟩ := List.mem_map.mp hx
    rcases List.mem_cons.mp hy with rfl | hy
    · rw [tl_head]
      have := hn m (by have := g.m8; omega)
      simp; omega
    · obtain ⟨p, hp, rfl⟩ := List.mem_map.mp hy
      rw [tl_line]
      have r := g.rng p hp
      have m8 := g.m8
      have h1 := hn p.1 (by omega)
      have h2 := hn p.2 (by omega)
      simp; omega
  have hl : ((linesS m ws).map tl).length ≤ 65 := by
    have := g.len
    simp [linesS]; omega
  simp only [List.length_append, List.length_cons, List.length_nil]
  omega
theorem strOk_g {m : Nat} {ws : List (Nat × Nat)} : PyData.strOk (gText m ws) = true := strOk_tl fun c hc => by
  rw [gText1, tlJ, tlN] at hc
  have key : ∀ ps : List (List Nat), (∀ p ∈ ps, ∀ c ∈ p, c < 200) → ∀ c ∈ joinL [10] ps, c < 200 := by
    intro ps
    induction ps with
    | nil => intro _ c hc; simp [joinL] at hc
    | cons p r ih =>
      intro h c hc
      cases r with
      | nil => exact h p (by simp) c hc
      | cons q r =>
        have hc : c ∈ p ++ ([10] ++ joinL [10] (q :: r)) := hc
        rcases List.mem_append.mp hc with z | z
        · exact h p (by simp) c z
        · rcases List.mem_append.mp z with z | z
          · rw [List.mem_singleton.mp z]; decide
          · exact ih (fun x hx => h x (List.mem_cons_of_mem _ hx)) c z
  have nd : ∀ n, ∀ c ∈ numL n, c < 200 := fun n c hc => by have := numL_digits n c hc; omega
  rcases List.mem_append.mp hc with z | z
  · have := key ((linesS m ws).map tl) (fun x hx => by
      obtain ⟨y, hy, rfl⟩ := List.mem_map.mp hx
      rcases List.mem_cons.mp hy with rfl | hy
      · rw [tl_head]
        intro c hc
        rcases List.mem_append.mp hc with z | z
        · simp at z; omega
        · exact nd _ c z
      · obtain ⟨p, hp, rfl⟩ := List.mem_map.mp hy
        rw [tl_line]
        intro c hc
        rcases List.mem_append.mp hc with z | z
        · exact nd _ c z
        · rcases List.mem_append.mp z with z | z
          · simp at z; omega
          · exact nd _ c z) c z
    omega
  · rw [List.mem_singleton.mp z]; decide
end ILaw

namespace ILaw
open PySem PySem.Spec PyProof.Rows L2 IL TL
theorem pIx_tup {xs : List PV} {j : Int} {y : PV} {Q : TV → Prop} (e : atI xs j = some y) (q : Q (.v y)) : pIx (.tup xs) (.int j) Q := by
  show match atI xs j with | some y => Q (.v y) | none => False
  rw [e]
  exact q
theorem pIx_lst {xs : List PV} {j : Int} {y : PV} {Q : TV → Prop} (e : atI xs j = some y) (q : Q (.v y)) : pIx (.lst xs) (.int j) Q := by
  show match atI xs j with | some y => Q (.v y) | none => False
  rw [e]
  exact q
variable {Q : TV → Prop}
theorem i_is_whole {i : Int} (h : Q (.v (.bl true))) : F_is_whole [.int i] Q := h
theorem i_is_between {v lo hi : Int} (h1 : lo ≤ v) (h2 : v ≤ hi) (h : Q (.v (.bl true))) : F_is_between [.int v, .int lo, .int hi] Q := by
  refine ⟨rfl, i_is_whole ?_⟩
  show (if decide (lo ≤ v) = true then Q (.v (.bl (decide (v ≤ hi)))) else Q (.v (.bl false)))
  rw [if_pos (decide_eq_true h1), decide_eq_true h2]
  exact h
theorem i_is_number {v : Int} (hv : 0 ≤ v) (h : Q (.v (.bl true))) : F_is_number [.int v] Q := by
  refine ⟨rfl, i_is_whole ?_⟩
  show Q (.v (.bl (decide (0 ≤ v))))
  rw [decide_eq_true hv]
  exact h
theorem i_is_tuple_of {xs : List PV} {n : Int} (e : (xs.length : Int) = n) (h : Q (.v (.bl true))) : F_is_tuple_of [.tup xs, .int n] Q := by
  show pEq false (.int xs.length) (.int n) _
  refine pEq_int ?_
  rw [e, beq_self_eq_true]
  exact h
theorem lex_pair (p q : Nat × Nat) (h : ltP p q) : HT.lexLt [(p.1 : Int), p.2] [(q.1 : Int), q.2] = true := by
  rw [HT.lexLt_cons, HT.lexLt_cons]
  rcases h with h | ⟨h1, h2⟩
  · rw [if_neg (by omega)]
    exact decide_eq_true (by omega)
  · rw [if_pos (by omega), if_neg (by omega)]
    exact decide_eq_true (by omega)
theorem i_are_rising {ws : List (Nat × Nat)} (inc : ws.Pairwise ltP) (hl : ws.length ≤ 64) (h : Q (.v (.bl true))) : F_are_rising [.tup (ws.map pPV)] Q := by
  have hL : (ws.map pPV).length ≤ 64 := by simpa using hl
  refine ⟨⟨by decide, by decide, by omega, by omega⟩, size_le (by rw [rangePV_len]; omega), rfl, ?_⟩
  refine wComp_map (fun _ => .bl true) (fun x hx K acc hk => ?_) ?_
  · obtain ⟨i, hi, rfl⟩ := rangePV_mem hx
    have hi1 : i + 1 < ws.length := by rw [List.length_map] at hi; omega
    simp only [sSeq, sNext, sRet, sRetN, sRetV, sSet, sIf, sDrop, sTgt, sPar, sNever, wTmps, setAll, sFor, gNm, IL.gTup, gEach, tTrue, tTru, tOf, tNotW, tAndW, tOrW, oAnd, oOr, oNotT, oIf, oChain, oTup, oLst, wArgs, oPrim, withOps, evOps, Opd.ev, oC, oVar, oSl, partEv, oMeth, isStrPV, oComp, oComp2, iSeq, iRange1, iRange2, rgW, oDict0, lift1, lift2, Opr.rd, rdAll, e_rl, Option.map_some, Option.map_none, e_pv, e_po, e_tb, e_ti, e_tn, e_tl, e_tt, e_add, e_addS, e_addL, e_addT, e_sub, e_mul, e_mod, e_fdiv, e_pow, e_neg, e_lt, e_le, e_gt, e_ge, e_eqI, e_lenT, e_lenL, e_lenS, e_lenR, e_tupL, e_tupT, e_intI, e_isiI, e_isiIB, e_isiT, e_isiS, e_isN, e_isI, e_isS, e_isT, e_sqT, e_sqL, e_sqS, wipeE, IL.envOf, List.map_cons, List.map_nil, List.length_cons, List.length_nil, Nat.zero_add, Nat.reduceSub, Nat.reduceAdd, List.replicate, List.cons_append, List.nil_append, List.set_cons_zero, List.set_cons_succ, List.getElem?_cons_zero, List.getElem?_cons_succ, List.getElem?_nil, restE, Option.join, Option.bind_some, Option.bind_none, id_eq, if_true, if_false, Bool.false_eq_true, Bool.not_true, Bool.not_false, Bool.bne_false, Bool.bne_true, reduceIte, Bool.true_bne, Bool.false_bne, and_true, true_and, fnW]
    refine pIx_tup (y := pPV (ws[i]'(by omega))) (atI_at (j := i) (by omega) (by rw [List.getElem?_map, List.getElem?_eq_getElem (by omega)]; rfl)) ?_
    simp only [sSeq, sNext, sRet, sRetN, sRetV, sSet, sIf, sDrop, sTgt, sPar, sNever, wTmps, setAll, sFor, gNm, IL.gTup, gEach, tTrue, tTru, tOf, tNotW, tAndW, tOrW, oAnd, oOr, oNotT, oIf, oChain, oTup, oLst, wArgs, oPrim, withOps, evOps, Opd.ev, oC, oVar, oSl, partEv, oMeth, isStrPV, oComp, oComp2, iSeq, iRange1, iRange2, rgW, oDict0, lift1, lift2, Opr.rd, rdAll, e_rl, Option.map_some, Option.map_none, e_pv, e_po, e_tb, e_ti, e_tn, e_tl, e_tt, e_add, e_addS, e_addL, e_addT, e_sub, e_mul, e_mod, e_fdiv, e_pow, e_neg, e_lt, e_le, e_gt, e_ge, e_eqI, e_lenT, e_lenL, e_lenS, e_lenR, e_tupL, e_tupT, e_intI, e_isiI, e_isiIB, e_isiT, e_isiS, e_isN, e_isI, e_isS, e_isT, e_sqT, e_sqL, e_sqS, wipeE, IL.envOf, List.map_cons, List.map_nil, List.length_cons, List.length_nil, Nat.zero_add, Nat.reduceSub, Nat.reduceAdd, List.replicate, List.cons_append, List.nil_append, List.set_cons_zero, List.set_cons_succ, List.getElem?_cons_zero, List.getElem?_cons_succ, List.getElem?_nil, restE, Option.join, Option.bind_some, Option.bind_none, id_eq, if_true, if_false, Bool.false_eq_true, Bool.not_true, Bool.not_false, Bool.bne_false, Bool.bne_true, reduceIte, Bool.true_bne, Bool.false_bne, and_true, true_and, fnW]
    refine pIx_tup (y := pPV (ws[i + 1]'hi1)) (atI_at (j := i + 1) (by omega) (by rw [List.getElem?_map, List.getElem?_eq_getElem hi1]; rfl)) ?_
    have hp : ltP (ws[i]'(by omega)) (ws[i + 1]'hi1) := List.pairwise_iff_getElem.mp inc i (i + 1) (by omega) hi1 (by omega)
    simp only [sSeq, sNext, sRet, sRetN, sRetV, sSet, sIf, sDrop, sTgt, sPar, sNever, wTmps, setAll, sFor, gNm, IL.gTup, gEach, tTrue, tTru, tOf, tNotW, tAndW, tOrW, oAnd, oOr, oNotT, oIf, oChain, oTup, oLst, wArgs, oPrim, withOps, evOps, Opd.ev, oC, oVar, oSl, partEv, oMeth, isStrPV, oComp, oComp2, iSeq, iRange1, iRange2, rgW, oDict0, lift1, lift2, Opr.rd, rdAll, e_rl, Option.map_some, Option.map_none, e_pv, e_po, e_tb, e_ti, e_tn, e_tl, e_tt, e_add, e_addS, e_addL, e_addT, e_sub, e_mul, e_mod, e_fdiv, e_pow, e_neg, e_lt, e_le, e_gt, e_ge, e_eqI, e_lenT, e_lenL, e_lenS, e_lenR, e_tupL, e_tupT, e_intI, e_isiI, e_isiIB, e_isiT, e_isiS, e_isN, e_isI, e_isS, e_isT, e_sqT, e_sqL, e_sqS, wipeE, IL.envOf, List.map_cons, List.map_nil, List.length_cons, List.length_nil, Nat.zero_add, Nat.reduceSub, Nat.reduceAdd, List.replicate, List.cons_append, List.nil_append, List.set_cons_zero, List.set_cons_succ, List.getElem?_cons_zero, List.getElem?_cons_succ, List.getElem?_nil, restE, Option.join, Option.bind_some, Option.bind_none, id_eq, if_true, if_false, Bool.false_eq_true, Bool.not_true, Bool.not_false, Bool.bne_false, Bool.bne_true, reduceIte, Bool.true_bne, Bool.false_bne, and_true, true_and, fnW]
    show K (acc ++ [.bl (HT.lexLt _ _)]) _
    rw [lex_pair _ _ hp]
    exact hk
  · refine pAll_true (fun x hx => ?_) h
    rw [List.nil_append] at hx
    obtain ⟨_, _, rfl⟩ := List.mem_map.mp hx
    rfl
end ILaw

namespace ILaw
open PySem PySem.Spec PyProof.Rows L2 IL TL
variable {Q : TV → Prop}
theorem enumPV_mem {x : PV} : ∀ {xs : List PV} {k : Nat}, x ∈ enumPV k xs → ∃ (i : Nat) (y : PV), y ∈ xs ∧ x = .tup [.int i, y]
  | [], _, h => by cases h
  | y :: ys, k, h => by
    rcases List.mem_cons.mp h with rfl | h
    · exact ⟨k, y, List.mem_cons_self, rfl⟩
    · obtain ⟨i, z, hz, e⟩ := enumPV_mem h
      exact ⟨i, z, List.mem_cons_of_mem _ hz, e⟩
theorem i_first_wrong {ns : List Int} {lo hi : Int} (h0 : ∀ n ∈ ns, 0 ≤ n) (h1 : lo ≤ ns.length) (h2 : (ns.length : Int) ≤ hi) (h8 : hi ≤ 100) (h : Q (.own (.lst []))) : F_first_wrong [.tup (ns.map .int), .int lo, .int hi, .fn "is_number"] Q := by
  unfold F_first_wrong b_first_wrong
  simp only [sSeq, sNext, sRet, sRetN, sRetV, sSet, sIf, sDrop, sTgt, sPar, sNever, wTmps, setAll, sFor, gNm, IL.gTup, gEach, tTrue, tTru, tOf, tNotW, tAndW, tOrW, oAnd, oOr, oNotT, oIf, oChain, oTup, oLst, wArgs, oPrim, withOps, evOps, Opd.ev, oC, oVar, oSl, partEv, oMeth, isStrPV, oComp, oComp2, iSeq, iRange1, iRange2, rgW, oDict0, lift1, lift2, Opr.rd, rdAll, e_rl, Option.map_some, Option.map_none, e_pv, e_po, e_tb, e_ti, e_tn, e_tl, e_tt, e_add, e_addS, e_addL, e_addT, e_sub, e_mul, e_mod, e_fdiv, e_pow, e_neg, e_lt, e_le, e_gt, e_ge, e_eqI, e_lenT, e_lenL, e_lenS, e_lenR, e_tupL, e_tupT, e_intI, e_isiI, e_isiIB, e_isiT, e_isiS, e_isN, e_isI, e_isS, e_isT, e_sqT, e_sqL, e_sqS, wipeE, IL.envOf, List.map_cons, List.map_nil, List.length_cons, List.length_nil, Nat.zero_add, Nat.reduceSub, Nat.reduceAdd, List.replicate, List.cons_append, List.nil_append, List.set_cons_zero, List.set_cons_succ, List.getElem?_cons_zero, List.getElem?_cons_succ, List.getElem?_nil, restE, Option.join, Option.bind_some, Option.bind_none, id_eq, if_true, if_false, Bool.false_eq_true, Bool.not_true, Bool.not_false, Bool.bne_false, Bool.bne_true, reduceIte, Bool.true_bne, Bool.false_bne, and_true, true_and, fnW, List.length_map, decide_eq_true h1, decide_eq_true h2, iEnum', sqOf, List.replicate_succ]
  refine ⟨size_le (by rw [enumPV_length, List.length_map]; omega), rfl, ?_⟩
  refine wComp_fm (fun _ => []) (fun x hx K acc hk => ?_) ?_
  · obtain ⟨i, y, hy, rfl⟩ := enumPV_mem hx
    obtain ⟨n, hn, rfl⟩ := List.mem_map.mp hy
    simp only [sSeq, sNext, sRet, sRetN, sRetV, sSet, sIf, sDrop, sTgt, sPar, sNever, wTmps, setAll, sFor, gNm, IL.gTup, gEach, tTrue, tTru, tOf, tNotW, tAndW, tOrW, oAnd, oOr, oNotT, oIf, oChain, oTup, oLst, wArgs, oPrim, withOps, evOps, Opd.ev, oC, oVar, oSl, partEv, oMeth, isStrPV, oComp, oComp2, iSeq, iRange1, iRange2, rgW, oDict0, lift1, lift2, Opr.rd, rdAll, e_rl, Option.map_some, Option.map_none, e_pv, e_po, e_tb, e_ti, e_tn, e_tl, e_tt, e_add, e_addS, e_addL, e_addT, e_sub, e_mul, e_mod, e_fdiv, e_pow, e_neg, e_lt, e_le, e_gt, e_ge, e_eqI, e_lenT, e_lenL, e_lenS, e_lenR, e_tupL, e_tupT, e_intI, e_isiI, e_isiIB, e_isiT, e_isiS, e_isN, e_isI, e_isS, e_isT, e_sqT, e_sqL, e_sqS, wipeE, IL.envOf, List.map_cons, List.map_nil, List.length_cons, List.length_nil, Nat.zero_add, Nat.reduceSub, Nat.reduceAdd, List.replicate, List.cons_append, List.nil_append, List.set_cons_zero, List.set_cons_succ, List.getElem?_cons_zero, List.getElem?_cons_succ, List.getElem?_nil, restE, Option.join, Option.bind_some, Option.bind_none, id_eq, if_true, if_false, Bool.false_eq_true, Bool.not_true, Bool.not_false, Bool.bne_false, Bool.bne_true, reduceIte, Bool.true_bne, Bool.false_bne, and_true, true_and, fnW, oCallL]
    refine ⟨⟨_, rfl, rfl⟩, ?_⟩
    refine i_is_number (h0 n hn) ?_
    simp only [sSeq, sNext, sRet, sRetN, sRetV, sSet, sIf, sDrop, sTgt, sPar, sNever, wTmps, setAll, sFor, gNm, IL.gTup, gEach, tTrue, tTru, tOf, tNotW, tAndW, tOrW, oAnd, oOr, oNotT, oIf, oChain, oTup, oLst, wArgs, oPrim, withOps, evOps, Opd.ev, oC, oVar, oSl, partEv, oMeth, isStrPV, oComp, oComp2, iSeq, iRange1, iRange2, rgW, oDict0, lift1, lift2, Opr.rd, rdAll, e_rl, Option.map_some, Option.map_none, e_pv, e_po, e_tb, e_ti, e_tn, e_tl, e_tt, e_add, e_addS, e_addL, e_addT, e_sub, e_mul, e_mod, e_fdiv, e_pow, e_neg, e_lt, e_le, e_gt, e_ge, e_eqI, e_lenT, e_lenL, e_lenS, e_lenR, e_tupL, e_tupT, e_intI, e_isiI, e_isiIB, e_isiT, e_isiS, e_isN, e_isI, e_isS, e_isT, e_sqT, e_sqL, e_sqS, wipeE, IL.envOf, List.map_cons, List.map_nil, List.length_cons, List.length_nil, Nat.zero_add, Nat.reduceSub, Nat.reduceAdd, List.replicate, List.cons_append, List.nil_append, List.set_cons_zero, List.set_cons_succ, List.getElem?_cons_zero, List.getElem?_cons_succ, List.getElem?_nil, restE, Option.join, Option.bind_some, Option.bind_none, id_eq, if_true, if_false, Bool.false_eq_true, Bool.not_true, Bool.not_false, Bool.bne_false, Bool.bne_true, reduceIte, Bool.true_bne, Bool.false_bne, and_true, true_and, fnW]
    rw [List.append_nil] at hk
    exact hk
  · have e : (enumPV 0 (ns.map .int)).flatMap (fun _ => ([] : List PV)) = [] := by simp
    rw [e]
    exact h
theorem pNe_int {i j : Int} (hn : i ≠ j) (q : Q (.v (.bl true))) : pEq true (.int i) (.int j) Q := pEq_int (by
  have : (i == j) = false := beq_eq_false_iff_ne.mpr hn
  rw [this]
  exact q)
theorem i_is_win {m : Nat} {p : Nat × Nat} (hp : p.1 < m ∧ p.2 < m ∧ p.1 ≠ p.2) (h : Q (.v (.bl true))) : F_is_win [.int m, pPV p] Q := by
  unfold F_is_win b_is_win
  simp only [sSeq, sNext, sRet, sRetN, sRetV, sSet, sIf, sDrop, sTgt, sPar, sNever, wTmps, setAll, sFor, gNm, IL.gTup, gEach, tTrue, tTru, tOf, tNotW, tAndW, tOrW, oAnd, oOr, oNotT, oIf, oChain, oTup, oLst, wArgs, oPrim, withOps, evOps, Opd.ev, oC, oVar, oSl, partEv, oMeth, isStrPV, oComp, oComp2, iSeq, iRange1, iRange2, rgW, oDict0, lift1, lift2, Opr.rd, rdAll, e_rl, Option.map_some, Option.map_none, e_pv, e_po, e_tb, e_ti, e_tn, e_tl, e_tt, e_add, e_addS, e_addL, e_addT, e_sub, e_mul, e_mod, e_fdiv, e_pow, e_neg, e_lt, e_le, e_gt, e_ge, e_eqI, e_lenT, e_lenL, e_lenS, e_lenR, e_tupL, e_tupT, e_intI, e_isiI, e_isiIB, e_isiT, e_isiS, e_isN, e_isI, e_isS, e_isT, e_sqT, e_sqL, e_sqS, wipeE, IL.envOf, List.map_cons, List.map_nil, List.length_cons, List.length_nil, Nat.zero_add, Nat.reduceSub, Nat.reduceAdd, List.replicate, List.cons_append, List.nil_append, List.set_cons_zero, List.set_cons_succ, List.getElem?_cons_zero, List.getElem?_cons_succ, List.getElem?_nil, restE, Option.join, Option.bind_some, Option.bind_none, id_eq, if_true, if_false, Bool.false_eq_true, Bool.not_true, Bool.not_false, Bool.bne_false, Bool.bne_true, reduceIte, Bool.true_bne, Bool.false_bne, and_true, true_and, fnW, oCall]
  refine i_is_tuple_of rfl ?_
  simp only [sSeq, sNext, sRet, sRetN, sRetV, sSet, sIf, sDrop, sTgt, sPar, sNever, wTmps, setAll, sFor, gNm, IL.gTup, gEach, tTrue, tTru, tOf, tNotW, tAndW, tOrW, oAnd, oOr, oNotT, oIf, oChain, oTup, oLst, wArgs, oPrim, withOps, evOps, Opd.ev, oC, oVar, oSl, partEv, oMeth, isStrPV, oComp, oComp2, iSeq, iRange1, iRange2, rgW, oDict0, lift1, lift2, Opr.rd, rdAll, e_rl, Option.map_some, Option.map_none, e_pv, e_po, e_tb, e_ti, e_tn, e_tl, e_tt, e_add, e_addS, e_addL, e_addT, e_sub, e_mul, e_mod, e_fdiv, e_pow, e_neg, e_lt, e_le, e_gt, e_ge, e_eqI, e_lenT, e_lenL, e_lenS, e_lenR, e_tupL, e_tupT, e_intI, e_isiI, e_isiIB, e_isiT, e_isiS, e_isN, e_isI, e_isS, e_isT, e_sqT, e_sqL, e_sqS, wipeE, IL.envOf, List.map_cons, List.map_nil, List.length_cons, List.length_nil, Nat.zero_add, Nat.reduceSub, Nat.reduceAdd, List.replicate, List.cons_append, List.nil_append, List.set_cons_zero, List.set_cons_succ, List.getElem?_cons_zero, List.getElem?_cons_succ, List.getElem?_nil, restE, Option.join, Option.bind_some, Option.bind_none, id_eq, if_true, if_false, Bool.false_eq_true, Bool.not_true, Bool.not_false, Bool.bne_false, Bool.bne_true, reduceIte, Bool.true_bne, Bool.false_bne, and_true, true_and, fnW]
  refine pIx_tup (y := .int p.1) rfl ?_
  simp only [sSeq, sNext, sRet, sRetN, sRetV, sSet, sIf, sDrop, sTgt, sPar, sNever, wTmps, setAll, sFor, gNm, IL.gTup, gEach, tTrue, tTru, tOf, tNotW, tAndW, tOrW, oAnd, oOr, oNotT, oIf, oChain, oTup, oLst, wArgs, oPrim, withOps, evOps, Opd.ev, oC, oVar, oSl, partEv, oMeth, isStrPV, oComp, oComp2, iSeq, iRange1, iRange2, rgW, oDict0, lift1, lift2, Opr.rd, rdAll, e_rl, Option.map_some, Option.map_none, e_pv, e_po, e_tb, e_ti, e_tn, e_tl, e_tt, e_add, e_addS, e_addL, e_addT, e_sub, e_mul, e_mod, e_fdiv, e_pow, e_neg, e_lt, e_le, e_gt, e_ge, e_eqI, e_lenT, e_lenL, e_lenS, e_lenR, e_tupL, e_tupT, e_intI, e_isiI, e_isiIB, e_isiT, e_isiS, e_isN, e_isI, e_isS, e_isT, e_sqT, e_sqL, e_sqS, wipeE, IL.envOf, List.map_cons, List.map_nil, List.length_cons, List.length_nil, Nat.zero_add, Nat.reduceSub, Nat.reduceAdd, List.replicate, List.cons_append, List.nil_append, List.set_cons_zero, List.set_cons_succ, List.getElem?_cons_zero, List.getElem?_cons_succ, List.getElem?_nil, restE, Option.join, Option.bind_some, Option.bind_none, id_eq, if_true, if_false, Bool.false_eq_true, Bool.not_true, Bool.not_false, Bool.bne_false, Bool.bne_true, reduceIte, Bool.true_bne, Bool.false_bne, and_true, true_and, fnW]
  refine i_is_between (by omega) (by omega) ?_
  simp only [sSeq, sNext, sRet, sRetN, sRetV, sSet, sIf, sDrop, sTgt, sPar, sNever, wTmps, setAll, sFor, gNm, IL.gTup, gEach, tTrue, tTru, tOf, tNotW, tAndW, tOrW, oAnd, oOr, oNotT, oIf, oChain, oTup, oLst, wArgs, oPrim, withOps, evOps, Opd.ev, oC, oVar, oSl, partEv, oMeth, isStrPV, oComp, oComp2, iSeq, iRange1, iRange2, rgW, oDict0, lift1, lift2, Opr.rd, rdAll, e_rl, Option.map_some, Option.map_none, e_pv, e_po, e_tb, e_ti, e_tn, e_tl, e_tt, e_add, e_addS, e_addL, e_addT, e_sub, e_mul, e_mod, e_fdiv, e_pow, e_neg, e_lt, e_le, e_gt, e_ge, e_eqI, e_lenT, e_lenL, e_lenS, e_lenR, e_tupL, e_tupT, e_intI, e_isiI, e_isiIB, e_isiT, e_isiS, e_isN, e_isI, e_isS, e_isT, e_sqT, e_sqL, e_sqS, wipeE, IL.envOf, List.map_cons, List.map_nil, List.length_cons, List.length_nil, Nat.zero_add, Nat.reduceSub, Nat.reduceAdd, List.replicate, List.cons_append, List.nil_append, List.set_cons_zero, List.set_cons_succ, List.getElem?_cons_zero, List.getElem?_cons_succ, List.getElem?_nil, restE, Option.join, Option.bind_some, Option.bind_none, id_eq, if_true, if_false, Bool.false_eq_true, Bool.not_true, Bool.not_false, Bool.bne_false, Bool.bne_true, reduceIte, Bool.true_bne, Bool.false_bne, and_true, true_and, fnW]
  refine pIx_tup (y := .int p.2) rfl ?_
  simp only [sSeq, sNext, sRet, sRetN, sRetV, sSet, sIf, sDrop, sTgt, sPar, sNever, wTmps, setAll, sFor, gNm, IL.gTup, gEach, tTrue, tTru, tOf, tNotW, tAndW, tOrW, oAnd, oOr, oNotT, oIf, oChain, oTup, oLst, wArgs, oPrim, withOps, evOps, Opd.ev, oC, oVar, oSl, partEv, oMeth, isStrPV, oComp, oComp2, iSeq, iRange1, iRange2, rgW, oDict0, lift1, lift2, Opr.rd, rdAll, e_rl, Option.map_some, Option.map_none, e_pv, e_po, e_tb, e_ti, e_tn, e_tl, e_tt, e_add, e_addS, e_addL, e_addT, e_sub, e_mul, e_mod, e_fdiv, e_pow, e_neg, e_lt, e_le, e_gt, e_ge, e_eqI, e_lenT, e_lenL, e_lenS, e_lenR, e_tupL, e_tupT, e_intI, e_isiI, e_isiIB, e_isiT, e_isiS, e_isN, e_isI, e_isS, e_isT, e_sqT, e_sqL, e_sqS, wipeE, IL.envOf, List.map_cons, List.map_nil, List.length_cons, List.length_nil, Nat.zero_add, Nat.reduceSub, Nat.reduceAdd, List.replicate, List.cons_append, List.nil_append, List.set_cons_zero, List.set_cons_succ, List.getElem?_cons_zero, List.getElem?_cons_succ, List.getElem?_nil, restE, Option.join, Option.bind_some, Option.bind_none, id_eq, if_true, if_false, Bool.false_eq_true, Bool.not_true, Bool.not_false, Bool.bne_false, Bool.bne_true, reduceIte, Bool.true_bne, Bool.false_bne, and_true, true_and, fnW]
  refine i_is_between (by omega) (by omega) ?_
  simp only [sSeq, sNext, sRet, sRetN, sRetV, sSet, sIf, sDrop, sTgt, sPar, sNever, wTmps, setAll, sFor, gNm, IL.gTup, gEach, tTrue, tTru, tOf, tNotW, tAndW, tOrW, oAnd, oOr, oNotT, oIf, oChain, oTup, oLst, wArgs, oPrim, withOps, evOps, Opd.ev, oC, oVar, oSl, partEv, oMeth, isStrPV, oComp, oComp2, iSeq, iRange1, iRange2, rgW, oDict0, lift1, lift2, Opr.rd, rdAll, e_rl, Option.map_some, Option.map_none, e_pv, e_po, e_tb, e_ti, e_tn, e_tl, e_tt, e_add, e_addS, e_addL, e_addT, e_sub, e_mul, e_mod, e_fdiv, e_pow, e_neg, e_lt, e_le, e_gt, e_ge, e_eqI, e_lenT, e_lenL, e_lenS, e_lenR, e_tupL, e_tupT, e_intI, e_isiI, e_isiIB, e_isiT, e_isiS, e_isN, e_isI, e_isS, e_isT, e_sqT, e_sqL, e_sqS, wipeE, IL.envOf, List.map_cons, List.map_nil, List.length_cons, List.length_nil, Nat.zero_add, Nat.reduceSub, Nat.reduceAdd, List.replicate, List.cons_append, List.nil_append, List.set_cons_zero, List.set_cons_succ, List.getElem?_cons_zero, List.getElem?_cons_succ, List.getElem?_nil, restE, Option.join, Option.bind_some, Option.bind_none, id_eq, if_true, if_false, Bool.false_eq_true, Bool.not_true, Bool.not_false, Bool.bne_false, Bool.bne_true, reduceIte, Bool.true_bne, Bool.false_bne, and_true, true_and, fnW]
  refine pIx_tup (y := .int p.1) rfl ?_
  refine pIx_tup (y := .int p.2) rfl ?_
  exact pNe_int (by omega) h
theorem dat_pPV (p : Nat × Nat) : dat (pPV p) = some (.tuple [.int p.1, .int p.2]) := by simp [pPV, dat, datL]
theorem dat_ws (ws : List (Nat × Nat)) : dat (.tup (ws.map pPV)) = some (.tuple (ws.map fun p => .tuple [.int p.1, .int p.2])) := by
  simp only [dat]
  rw [datL_map (g := fun p : Nat × Nat => PyData.tuple [.int p.1, .int p.2]) fun p _ => dat_pPV p]
  rfl
theorem canAll (ws : List (Nat × Nat)) : PyData.canLayAll0 (ws.map fun p => PyData.tuple [.int p.1, .int p.2]) = true := by
  induction ws with
  | nil => rfl
  | cons p ws ih => simp [PyData.canLayAll0, PyData.canLay0] at ih ⊢; exact ih
theorem depAll (ws : List (Nat × Nat)) : PyData.depthAll (ws.map fun p => PyData.tuple [.int p.1, .int p.2]) ≤ 1 := by
  induction ws with
  | nil => simp [PyData.depthAll]
  | cons p ws ih => simp [PyData.depthAll, PyData.depth] at ih ⊢; omega
theorem okD_pPV (p : Nat × Nat) : okD (pPV p) = true := by
  unfold okD
  rw [dat_pPV]
  rfl
theorem okD_ws (ws : List (Nat × Nat)) : okD (.tup (ws.map pPV)) = true := by
  unfold okD
  rw [dat_ws]
  show SeqAt.shaped _ = true
  unfold SeqAt.shaped
  simp only [PyData.canLay0, canAll, Bool.true_and, PyData.depth]
  have := depAll ws
  exact decide_eq_true (by omega)
theorem okD_g (m : Nat) (ws : List (Nat × Nat)) : okD (gPV m ws) = true := by
  have e : dat (gPV m ws) = some (.tuple [.int m, .tuple (ws.map fun p => .tuple [.int p.1, .int p.2])]) := by
    have := dat_ws ws
    simp only [gPV, dat, datL] at this ⊢
    rw [this]
    rfl
  unfold okD
  rw [e]
  show SeqAt.shaped _ = true
  unfold SeqAt.shaped
  simp only [PyData.canLay0, PyData.canLayAll0, canAll, Bool.true_and, PyData.depth, PyData.depthAll]
  have := depAll ws
  exact decide_eq_true (by omega)
theorem eq_pPV (p q : Nat × Nat) : eqPV (pPV p) (pPV q) = decide (p = q) := by
  unfold eqPV
  rw [dat_pPV, dat_pPV]
  show PyData.eqv _ _ = _
  simp only [PyData.eqv, PyData.eqvAll, Bool.and_true]
  rw [Bool.eq_iff_iff]
  simp [Prod.ext_iff]
  omega
theorem pIn_ws {p : Nat × Nat} {ws : List (Nat × Nat)} (hn : p ∉ ws) (q : Q (.v (.bl false))) : pIn false (pPV p) (.tup (ws.map pPV)) Q := by
  refine ⟨okD_pPV p, okD_ws ws, ?_⟩
  have e : ((ws.map pPV).any fun z => eqPV z (pPV p)) = false := by
    rw [List.any_map, List.any_eq_false]
    intro x hx
    show ¬ eqPV (pPV x) (pPV p) = true
    rw [eq_pPV]
    intro z
    exact hn (of_decide_eq_true z ▸ hx)
  rw [e]
  exact q
theorem i_are_wins {m : Nat} {ws : List (Nat × Nat)} (g : Good m ws) (h : Q (.v (.bl true))) : F_are_wins [.int m, .tup (ws.map pPV)] Q := by
  have hL : (ws.map pPV).length ≤ 64 := by simpa using g.len
  unfold F_are_wins b_are_wins
  simp only [sSeq, sNext, sRet, sRetN, sRetV, sSet, sIf, sDrop, sTgt, sPar, sNever, wTmps, setAll, sFor, gNm, IL.gTup, gEach, tTrue, tTru, tOf, tNotW, tAndW, tOrW, oAnd, oOr, oNotT, oIf, oChain, oTup, oLst, wArgs, oPrim, withOps, evOps, Opd.ev, oC, oVar, oSl, partEv, oMeth, isStrPV, oComp, oComp2, iSeq, iRange1, iRange2, rgW, oDict0, lift1, lift2, Opr.rd, rdAll, e_rl, Option.map_some, Option.map_none, e_pv, e_po, e_tb, e_ti, e_tn, e_tl, e_tt, e_add, e_addS, e_addL, e_addT, e_sub, e_mul, e_mod, e_fdiv, e_pow, e_neg, e_lt, e_le, e_gt, e_ge, e_eqI, e_lenT, e_lenL, e_lenS, e_lenR, e_tupL, e_tupT, e_intI, e_isiI, e_isiIB, e_isiT, e_isiS, e_isN, e_isI, e_isS, e_isT, e_sqT, e_sqL, e_sqS, wipeE, IL.envOf, List.map_cons, List.map_nil, List.length_cons, List.length_nil, Nat.zero_add, Nat.reduceSub, Nat.reduceAdd, List.replicate, List.cons_append, List.nil_append, List.set_cons_zero, List.set_cons_succ, List.getElem?_cons_zero, List.getElem?_cons_succ, List.getElem?_nil, restE, Option.join, Option.bind_some, Option.bind_none, id_eq, if_true, if_false, Bool.false_eq_true, Bool.not_true, Bool.not_false, Bool.bne_false, Bool.bne_true, reduceIte, Bool.true_bne, Bool.false_bne, and_true, true_and, fnW, oCall]
  refine ⟨size_le (by omega), rfl, ?_⟩
  refine wComp_map (fun _ => .bl true) (fun x hx K acc hk => ?_) ?_
  · obtain ⟨p, hp, rfl⟩ := List.mem_map.mp hx
    simp only [sSeq, sNext, sRet, sRetN, sRetV, sSet, sIf, sDrop, sTgt, sPar, sNever, wTmps, setAll, sFor, gNm, IL.gTup, gEach, tTrue, tTru, tOf, tNotW, tAndW, tOrW, oAnd, oOr, oNotT, oIf, oChain, oTup, oLst, wArgs, oPrim, withOps, evOps, Opd.ev, oC, oVar, oSl, partEv, oMeth, isStrPV, oComp, oComp2, iSeq, iRange1, iRange2, rgW, oDict0, lift1, lift2, Opr.rd, rdAll, e_rl, Option.map_some, Option.map_none, e_pv, e_po, e_tb, e_ti, e_tn, e_tl, e_tt, e_add, e_addS, e_addL, e_addT, e_sub, e_mul, e_mod, e_fdiv, e_pow, e_neg, e_lt, e_le, e_gt, e_ge, e_eqI, e_lenT, e_lenL, e_lenS, e_lenR, e_tupL, e_tupT, e_intI, e_isiI, e_isiIB, e_isiT, e_isiS, e_isN, e_isI, e_isS, e_isT, e_sqT, e_sqL, e_sqS, wipeE, IL.envOf, List.map_cons, List.map_nil, List.length_cons, List.length_nil, Nat.zero_add, Nat.reduceSub, Nat.reduceAdd, List.replicate, List.cons_append, List.nil_append, List.set_cons_zero, List.set_cons_succ, List.getElem?_cons_zero, List.getElem?_cons_succ, List.getElem?_nil, restE, Option.join, Option.bind_some, Option.bind_none, id_eq, if_true, if_false, Bool.false_eq_true, Bool.not_true, Bool.not_false, Bool.bne_false, Bool.bne_true, reduceIte, Bool.true_bne, Bool.false_bne, and_true, true_and, fnW, oCall]
    refine i_is_win (g.rng p hp) ?_
    exact hk
  · refine pAll_true (fun x hx => ?_) ?_
    · rw [List.nil_append] at hx
      obtain ⟨_, _, rfl⟩ := List.mem_map.mp hx
      rfl
    · simp only [sSeq, sNext, sRet, sRetN, sRetV, sSet, sIf, sDrop, sTgt, sPar, sNever, wTmps, setAll, sFor, gNm, IL.gTup, gEach, tTrue, tTru, tOf, tNotW, tAndW, tOrW, oAnd, oOr, oNotT, oIf, oChain, oTup, oLst, wArgs, oPrim, withOps, evOps, Opd.ev, oC, oVar, oSl, partEv, oMeth, isStrPV, oComp, oComp2, iSeq, iRange1, iRange2, rgW, oDict0, lift1, lift2, Opr.rd, rdAll, e_rl, Option.map_some, Option.map_none, e_pv, e_po, e_tb, e_ti, e_tn, e_tl, e_tt, e_add, e_addS, e_addL, e_addT, e_sub, e_mul, e_mod, e_fdiv, e_pow, e_neg, e_lt, e_le, e_gt, e_ge, e_eqI, e_lenT, e_lenL, e_lenS, e_lenR, e_tupL, e_tupT, e_intI, e_isiI, e_isiIB, e_isiT, e_isiS, e_isN, e_isI, e_isS, e_isT, e_sqT, e_sqL, e_sqS, wipeE, IL.envOf, List.map_cons, List.map_nil, List.length_cons, List.length_nil, Nat.zero_add, Nat.reduceSub, Nat.reduceAdd, List.replicate, List.cons_append, List.nil_append, List.set_cons_zero, List.set_cons_succ, List.getElem?_cons_zero, List.getElem?_cons_succ, List.getElem?_nil, restE, Option.join, Option.bind_some, Option.bind_none, id_eq, if_true, if_false, Bool.false_eq_true, Bool.not_true, Bool.not_false, Bool.bne_false, Bool.bne_true, reduceIte, Bool.true_bne, Bool.false_bne, and_true, true_and, fnW]
      refine i_are_rising g.inc g.len ?_
      simp only [sSeq, sNext, sRet, sRetN, sRetV, sSet, sIf, sDrop, sTgt, sPar, sNever, wTmps, setAll, sFor, gNm, IL.gTup, gEach, tTrue, tTru, tOf, tNotW, tAndW, tOrW, oAnd, oOr, oNotT, oIf, oChain, oTup, oLst, wArgs, oPrim, withOps, evOps, Opd.ev, oC, oVar, oSl, partEv, oMeth, isStrPV, oComp, oComp2, iSeq, iRange1, iRange2, rgW, oDict0, lift1, lift2, Opr.rd, rdAll, e_rl, Option.map_some, Option.map_none, e_pv, e_po, e_tb, e_ti, e_tn, e_tl, e_tt, e_add, e_addS, e_addL, e_addT, e_sub, e_mul, e_mod, e_fdiv, e_pow, e_neg, e_lt, e_le, e_gt, e_ge, e_eqI, e_lenT, e_lenL, e_lenS, e_lenR, e_tupL, e_tupT, e_intI, e_isiI, e_isiIB, e_isiT, e_isiS, e_isN, e_isI, e_isS, e_isT, e_sqT, e_sqL, e_sqS, wipeE, IL.envOf, List.map_cons, List.map_nil, List.length_cons, List.length_nil, Nat.zero_add, Nat.reduceSub, Nat.reduceAdd, List.replicate, List.cons_append, List.nil_append, List.set_cons_zero, List.set_cons_succ, List.getElem?_cons_zero, List.getElem?_cons_succ, List.getElem?_nil, restE, Option.join, Option.bind_some, Option.bind_none, id_eq, if_true, if_false, Bool.false_eq_true, Bool.not_true, Bool.not_false, Bool.bne_false, Bool.bne_true, reduceIte, Bool.true_bne, Bool.false_bne, and_true, true_and, fnW]
      refine ⟨size_le (by omega), rfl, ?_⟩
      refine wComp_map (fun _ => .bl false) (fun x hx K acc hk => ?_) ?_
      · obtain ⟨p, hp, rfl⟩ := List.mem_map.mp hx
        simp only [sSeq, sNext, sRet, sRetN, sRetV, sSet, sIf, sDrop, sTgt, sPar, sNever, wTmps, setAll, sFor, gNm, IL.gTup, gEach, tTrue, tTru, tOf, tNotW, tAndW, tOrW, oAnd, oOr, oNotT, oIf, oChain, oTup, oLst, wArgs, oPrim, withOps, evOps, Opd.ev, oC, oVar, oSl, partEv, oMeth, isStrPV, oComp, oComp2, iSeq, iRange1, iRange2, rgW, oDict0, lift1, lift2, Opr.rd, rdAll, e_rl, Option.map_some, Option.map_none, e_pv, e_po, e_tb, e_ti, e_tn, e_tl, e_tt, e_add, e_addS, e_addL, e_addT, e_sub, e_mul, e_mod, e_fdiv, e_pow, e_neg, e_lt, e_le, e_gt, e_ge, e_eqI, e_lenT, e_lenL, e_lenS, e_lenR, e_tupL, e_tupT, e_intI, e_isiI, e_isiIB, e_isiT, e_isiS, e_isN, e_isI, e_isS, e_isT, e_sqT, e_sqL, e_sqS, wipeE, IL.envOf, List.map_cons, List.map_nil, List.length_cons, List.length_nil, Nat.zero_add, Nat.reduceSub, Nat.reduceAdd, List.replicate, List.cons_append, List.nil_append, List.set_cons_zero, List.set_cons_succ, List.getElem?_cons_zero, List.getElem?_cons_succ, List.getElem?_nil, restE, Option.join, Option.bind_some, Option.bind_none, id_eq, if_true, if_false, Bool.false_eq_true, Bool.not_true, Bool.not_false, Bool.bne_false, Bool.bne_true, reduceIte, Bool.true_bne, Bool.false_bne, and_true, true_and, fnW, pPV]
        refine pIn_ws (p := (p.2, p.1)) (g.rev p hp) ?_
        exact hk
      · refine pAny_false (fun x hx => ?_) ?_
        · rw [List.nil_append] at hx
          obtain ⟨_, _, rfl⟩ := List.mem_map.mp hx
          rfl
        · simp only [sSeq, sNext, sRet, sRetN, sRetV, sSet, sIf, sDrop, sTgt, sPar, sNever, wTmps, setAll, sFor, gNm, IL.gTup, gEach, tTrue, tTru, tOf, tNotW, tAndW, tOrW, oAnd, oOr, oNotT, oIf, oChain, oTup, oLst, wArgs, oPrim, withOps, evOps, Opd.ev, oC, oVar, oSl, partEv, oMeth, isStrPV, oComp, oComp2, iSeq, iRange1, iRange2, rgW, oDict0, lift1, lift2, Opr.rd, rdAll, e_rl, Option.map_some, Option.map_none, e_pv, e_po, e_tb, e_ti, e_tn, e_tl, e_tt, e_add, e_addS, e_addL, e_addT, e_sub, e_mul, e_mod, e_fdiv, e_pow, e_neg, e_lt, e_le, e_gt, e_ge, e_eqI, e_lenT, e_lenL, e_lenS, e_lenR, e_tupL, e_tupT, e_intI, e_isiI, e_isiIB, e_isiT, e_isiS, e_isN, e_isI, e_isS, e_isT, e_sqT, e_sqL, e_sqS, wipeE, IL.envOf, List.map_cons, List.map_nil, List.length_cons, List.length_nil, Nat.zero_add, Nat.reduceSub, Nat.reduceAdd, List.replicate, List.cons_append, List.nil_append, List.set_cons_zero, List.set_cons_succ, List.getElem?_cons_zero, List.getElem?_cons_succ, List.getElem?_nil, restE, Option.join, Option.bind_some, Option.bind_none, id_eq, if_true, if_false, Bool.false_eq_true, Bool.not_true, Bool.not_false, Bool.bne_false, Bool.bne_true, reduceIte, Bool.true_bne, Bool.false_bne, and_true, true_and, fnW]
          exact h
theorem i_are_games_by {m : Nat} {ws : List (Nat × Nat)} (g : Good m ws) (h : Q (.v (.bl true))) : F_are_games_by [gPV m ws] Q := by
  unfold F_are_games_by b_are_games_by
  simp only [sSeq, sNext, sRet, sRetN, sRetV, sSet, sIf, sDrop, sTgt, sPar, sNever, wTmps, setAll, sFor, gNm, IL.gTup, gEach, tTrue, tTru, tOf, tNotW, tAndW, tOrW, oAnd, oOr, oNotT, oIf, oChain, oTup, oLst, wArgs, oPrim, withOps, evOps, Opd.ev, oC, oVar, oSl, partEv, oMeth, isStrPV, oComp, oComp2, iSeq, iRange1, iRange2, rgW, oDict0, lift1, lift2, Opr.rd, rdAll, e_rl, Option.map_some, Option.map_none, e_pv, e_po, e_tb, e_ti, e_tn, e_tl, e_tt, e_add, e_addS, e_addL, e_addT, e_sub, e_mul, e_mod, e_fdiv, e_pow, e_neg, e_lt, e_le, e_gt, e_ge, e_eqI, e_lenT, e_lenL, e_lenS, e_lenR, e_tupL, e_tupT, e_intI, e_isiI, e_isiIB, e_isiT, e_isiS, e_isN, e_isI, e_isS, e_isT, e_sqT, e_sqL, e_sqS, wipeE, IL.envOf, List.map_cons, List.map_nil, List.length_cons, List.length_nil, Nat.zero_add, Nat.reduceSub, Nat.reduceAdd, List.replicate, List.cons_append, List.nil_append, List.set_cons_zero, List.set_cons_succ, List.getElem?_cons_zero, List.getElem?_cons_succ, List.getElem?_nil, restE, Option.join, Option.bind_some, Option.bind_none, id_eq, if_true, if_false, Bool.false_eq_true, Bool.not_true, Bool.not_false, Bool.bne_false, Bool.bne_true, reduceIte, Bool.true_bne, Bool.false_bne, and_true, true_and, fnW, oCall]
  refine i_is_tuple_of rfl ?_
  simp only [sSeq, sNext, sRet, sRetN, sRetV, sSet, sIf, sDrop, sTgt, sPar, sNever, wTmps, setAll, sFor, gNm, IL.gTup, gEach, tTrue, tTru, tOf, tNotW, tAndW, tOrW, oAnd, oOr, oNotT, oIf, oChain, oTup, oLst, wArgs, oPrim, withOps, evOps, Opd.ev, oC, oVar, oSl, partEv, oMeth, isStrPV, oComp, oComp2, iSeq, iRange1, iRange2, rgW, oDict0, lift1, lift2, Opr.rd, rdAll, e_rl, Option.map_some, Option.map_none, e_pv, e_po, e_tb, e_ti, e_tn, e_tl, e_tt, e_add, e_addS, e_addL, e_addT, e_sub, e_mul, e_mod, e_fdiv, e_pow, e_neg, e_lt, e_le, e_gt, e_ge, e_eqI, e_lenT, e_lenL, e_lenS, e_lenR, e_tupL, e_tupT, e_intI, e_isiI, e_isiIB, e_isiT, e_isiS, e_isN, e_isI, e_isS, e_isT, e_sqT, e_sqL, e_sqS, wipeE, IL.envOf, List.map_cons, List.map_nil, List.length_cons, List.length_nil, Nat.zero_add, Nat.reduceSub, Nat.reduceAdd, List.replicate, List.cons_append, List.nil_append, List.set_cons_zero, List.set_cons_succ, List.getElem?_cons_zero, List.getElem?_cons_succ, List.getElem?_nil, restE, Option.join, Option.bind_some, Option.bind_none, id_eq, if_true, if_false, Bool.false_eq_true, Bool.not_true, Bool.not_false, Bool.bne_false, Bool.bne_true, reduceIte, Bool.true_bne, Bool.false_bne, and_true, true_and, fnW]
  refine pIx_tup (y := .int m) rfl ?_
  simp only [sSeq, sNext, sRet, sRetN, sRetV, sSet, sIf, sDrop, sTgt, sPar, sNever, wTmps, setAll, sFor, gNm, IL.gTup, gEach, tTrue, tTru, tOf, tNotW, tAndW, tOrW, oAnd, oOr, oNotT, oIf, oChain, oTup, oLst, wArgs, oPrim, withOps, evOps, Opd.ev, oC, oVar, oSl, partEv, oMeth, isStrPV, oComp, oComp2, iSeq, iRange1, iRange2, rgW, oDict0, lift1, lift2, Opr.rd, rdAll, e_rl, Option.map_some, Option.map_none, e_pv, e_po, e_tb, e_ti, e_tn, e_tl, e_tt, e_add, e_addS, e_addL, e_addT, e_sub, e_mul, e_mod, e_fdiv, e_pow, e_neg, e_lt, e_le, e_gt, e_ge, e_eqI, e_lenT, e_lenL, e_lenS, e_lenR, e_tupL, e_tupT, e_intI, e_isiI, e_isiIB, e_isiT, e_isiS, e_isN, e_isI, e_isS, e_isT, e_sqT, e_sqL, e_sqS, wipeE, IL.envOf, List.map_cons, List.map_nil, List.length_cons, List.length_nil, Nat.zero_add, Nat.reduceSub, Nat.reduceAdd, List.replicate, List.cons_append, List.nil_append, List.set_cons_zero, List.set_cons_succ, List.getElem?_cons_zero, List.getElem?_cons_succ, List.getElem?_nil, restE, Option.join, Option.bind_some, Option.bind_none, id_eq, if_true, if_false, Bool.false_eq_true, Bool.not_true, Bool.not_false, Bool.bne_false, Bool.bne_true, reduceIte, Bool.true_bne, Bool.false_bne, and_true, true_and, fnW]
  refine i_is_between (by have := g.m1; omega) (by have := g.m8; omega) ?_
  simp only [sSeq, sNext, sRet, sRetN, sRetV, sSet, sIf, sDrop, sTgt, sPar, sNever, wTmps, setAll, sFor, gNm, IL.gTup, gEach, tTrue, tTru, tOf, tNotW, tAndW, tOrW, oAnd, oOr, oNotT, oIf, oChain, oTup, oLst, wArgs, oPrim, withOps, evOps, Opd.ev, oC, oVar, oSl, partEv, oMeth, isStrPV, oComp, oComp2, iSeq, iRange1, iRange2, rgW, oDict0, lift1, lift2, Opr.rd, rdAll, e_rl, Option.map_some, Option.map_none, e_pv, e_po, e_tb, e_ti, e_tn, e_tl, e_tt, e_add, e_addS, e_addL, e_addT, e_sub, e_mul, e_mod, e_fdiv, e_pow, e_neg, e_lt, e_le, e_gt, e_ge, e_eqI, e_lenT, e_lenL, e_lenS, e_lenR, e_tupL, e_tupT, e_intI, e_isiI, e_isiIB, e_isiT, e_isiS, e_isN, e_isI, e_isS, e_isT, e_sqT, e_sqL, e_sqS, wipeE, IL.envOf, List.map_cons, List.map_nil, List.length_cons, List.length_nil, Nat.zero_add, Nat.reduceSub, Nat.reduceAdd, List.replicate, List.cons_append, List.nil_append, List.set_cons_zero, List.set_cons_succ, List.getElem?_cons_zero, List.getElem?_cons_succ, List.getElem?_nil, restE, Option.join, Option.bind_some, Option.bind_none, id_eq, if_true, if_false, Bool.false_eq_true, Bool.not_true, Bool.not_false, Bool.bne_false, Bool.bne_true, reduceIte, Bool.true_bne, Bool.false_bne, and_true, true_and, fnW]
  refine pIx_tup (y := .int m) rfl ?_
  simp only [sSeq, sNext, sRet, sRetN, sRetV, sSet, sIf, sDrop, sTgt, sPar, sNever, wTmps, setAll, sFor, gNm, IL.gTup, gEach, tTrue, tTru, tOf, tNotW, tAndW, tOrW, oAnd, oOr, oNotT, oIf, oChain, oTup, oLst, wArgs, oPrim, withOps, evOps, Opd.ev, oC, oVar, oSl, partEv, oMeth, isStrPV, oComp, oComp2, iSeq, iRange1, iRange2, rgW, oDict0, lift1, lift2, Opr.rd, rdAll, e_rl, Option.map_some, Option.map_none, e_pv, e_po, e_tb, e_ti, e_tn, e_tl, e_tt, e_add, e_addS, e_addL, e_addT, e_sub, e_mul, e_mod, e_fdiv, e_pow, e_neg, e_lt, e_le, e_gt, e_ge, e_eqI, e_lenT, e_lenL, e_lenS, e_lenR, e_tupL, e_tupT, e_intI, e_isiI, e_isiIB, e_isiT, e_isiS, e_isN, e_isI, e_isS, e_isT, e_sqT, e_sqL, e_sqS, wipeE, IL.envOf, List.map_cons, List.map_nil, List.length_cons, List.length_nil, Nat.zero_add, Nat.reduceSub, Nat.reduceAdd, List.replicate, List.cons_append, List.nil_append, List.set_cons_zero, List.set_cons_succ, List.getElem?_cons_zero, List.getElem?_cons_succ, List.getElem?_nil, restE, Option.join, Option.bind_some, Option.bind_none, id_eq, if_true, if_false, Bool.false_eq_true, Bool.not_true, Bool.not_false, Bool.bne_false, Bool.bne_true, reduceIte, Bool.true_bne, Bool.false_bne, and_true, true_and, fnW]
  refine pIx_tup (y := .tup (ws.map pPV)) rfl ?_
  exact i_are_wins g h
theorem i_check_games {m : Nat} {ws : List (Nat × Nat)} (g : Good m ws) (h : Q (.v .non)) : F_check_games [gPV m ws] Q := by
  unfold F_check_games b_check_games
  simp only [sSeq, sNext, sRet, sRetN, sRetV, sSet, sIf, sDrop, sTgt, sPar, sNever, wTmps, setAll, sFor, gNm, IL.gTup, gEach, tTrue, tTru, tOf, tNotW, tAndW, tOrW, oAnd, oOr, oNotT, oIf, oChain, oTup, oLst, wArgs, oPrim, withOps, evOps, Opd.ev, oC, oVar, oSl, partEv, oMeth, isStrPV, oComp, oComp2, iSeq, iRange1, iRange2, rgW, oDict0, lift1, lift2, Opr.rd, rdAll, e_rl, Option.map_some, Option.map_none, e_pv, e_po, e_tb, e_ti, e_tn, e_tl, e_tt, e_add, e_addS, e_addL, e_addT, e_sub, e_mul, e_mod, e_fdiv, e_pow, e_neg, e_lt, e_le, e_gt, e_ge, e_eqI, e_lenT, e_lenL, e_lenS, e_lenR, e_tupL, e_tupT, e_intI, e_isiI, e_isiIB, e_isiT, e_isiS, e_isN, e_isI, e_isS, e_isT, e_sqT, e_sqL, e_sqS, wipeE, IL.envOf, List.map_cons, List.map_nil, List.length_cons, List.length_nil, Nat.zero_add, Nat.reduceSub, Nat.reduceAdd, List.replicate, List.cons_append, List.nil_append, List.set_cons_zero, List.set_cons_succ, List.getElem?_cons_zero, List.getElem?_cons_succ, List.getElem?_nil, restE, Option.join, Option.bind_some, Option.bind_none, id_eq, if_true, if_false, Bool.false_eq_true, Bool.not_true, Bool.not_false, Bool.bne_false, Bool.bne_true, reduceIte, Bool.true_bne, Bool.false_bne, and_true, true_and, fnW, oCall]
  refine i_are_games_by g ?_
  simp only [sSeq, sNext, sRet, sRetN, sRetV, sSet, sIf, sDrop, sTgt, sPar, sNever, wTmps, setAll, sFor, gNm, IL.gTup, gEach, tTrue, tTru, tOf, tNotW, tAndW, tOrW, oAnd, oOr, oNotT, oIf, oChain, oTup, oLst, wArgs, oPrim, withOps, evOps, Opd.ev, oC, oVar, oSl, partEv, oMeth, isStrPV, oComp, oComp2, iSeq, iRange1, iRange2, rgW, oDict0, lift1, lift2, Opr.rd, rdAll, e_rl, Option.map_some, Option.map_none, e_pv, e_po, e_tb, e_ti, e_tn, e_tl, e_tt, e_add, e_addS, e_addL, e_addT, e_sub, e_mul, e_mod, e_fdiv, e_pow, e_neg, e_lt, e_le, e_gt, e_ge, e_eqI, e_lenT, e_lenL, e_lenS, e_lenR, e_tupL, e_tupT, e_intI, e_isiI, e_isiIB, e_isiT, e_isiS, e_isN, e_isI, e_isS, e_isT, e_sqT, e_sqL, e_sqS, wipeE, IL.envOf, List.map_cons, List.map_nil, List.length_cons, List.length_nil, Nat.zero_add, Nat.reduceSub, Nat.reduceAdd, List.replicate, List.cons_append, List.nil_append, List.set_cons_zero, List.set_cons_succ, List.getElem?_cons_zero, List.getElem?_cons_succ, List.getElem?_nil, restE, Option.join, Option.bind_some, Option.bind_none, id_eq, if_true, if_false, Bool.false_eq_true, Bool.not_true, Bool.not_false, Bool.bne_false, Bool.bne_true, reduceIte, Bool.true_bne, Bool.false_bne, and_true, true_and, fnW]
  exact h
theorem i_check_numbers {ns : List Int} (h0 : ∀ n ∈ ns, 0 ≤ n) (h1 : 1 ≤ ns.length) (h2 : ns.length ≤ 8) (h : Q (.v .non)) : F_check_numbers [.tup (ns.map .int)] Q := by
  unfold F_check_numbers b_check_numbers
  simp only [sSeq, sNext, sRet, sRetN, sRetV, sSet, sIf, sDrop, sTgt, sPar, sNever, wTmps, setAll, sFor, gNm, IL.gTup, gEach, tTrue, tTru, tOf, tNotW, tAndW, tOrW, oAnd, oOr, oNotT, oIf, oChain, oTup, oLst, wArgs, oPrim, withOps, evOps, Opd.ev, oC, oVar, oSl, partEv, oMeth, isStrPV, oComp, oComp2, iSeq, iRange1, iRange2, rgW, oDict0, lift1, lift2, Opr.rd, rdAll, e_rl, Option.map_some, Option.map_none, e_pv, e_po, e_tb, e_ti, e_tn, e_tl, e_tt, e_add, e_addS, e_addL, e_addT, e_sub, e_mul, e_mod, e_fdiv, e_pow, e_neg, e_lt, e_le, e_gt, e_ge, e_eqI, e_lenT, e_lenL, e_lenS, e_lenR, e_tupL, e_tupT, e_intI, e_isiI, e_isiIB, e_isiT, e_isiS, e_isN, e_isI, e_isS, e_isT, e_sqT, e_sqL, e_sqS, wipeE, IL.envOf, List.map_cons, List.map_nil, List.length_cons, List.length_nil, Nat.zero_add, Nat.reduceSub, Nat.reduceAdd, List.replicate, List.cons_append, List.nil_append, List.set_cons_zero, List.set_cons_succ, List.getElem?_cons_zero, List.getElem?_cons_succ, List.getElem?_nil, restE, Option.join, Option.bind_some, Option.bind_none, id_eq, if_true, if_false, Bool.false_eq_true, Bool.not_true, Bool.not_false, Bool.bne_false, Bool.bne_true, reduceIte, Bool.true_bne, Bool.false_bne, and_true, true_and, fnW, oCall]
  refine i_first_wrong h0 (by omega) (by omega) (by omega) ?_
  simp only [sSeq, sNext, sRet, sRetN, sRetV, sSet, sIf, sDrop, sTgt, sPar, sNever, wTmps, setAll, sFor, gNm, IL.gTup, gEach, tTrue, tTru, tOf, tNotW, tAndW, tOrW, oAnd, oOr, oNotT, oIf, oChain, oTup, oLst, wArgs, oPrim, withOps, evOps, Opd.ev, oC, oVar, oSl, partEv, oMeth, isStrPV, oComp, oComp2, iSeq, iRange1, iRange2, rgW, oDict0, lift1, lift2, Opr.rd, rdAll, e_rl, Option.map_some, Option.map_none, e_pv, e_po, e_tb, e_ti, e_tn, e_tl, e_tt, e_add, e_addS, e_addL, e_addT, e_sub, e_mul, e_mod, e_fdiv, e_pow, e_neg, e_lt, e_le, e_gt, e_ge, e_eqI, e_lenT, e_lenL, e_lenS, e_lenR, e_tupL, e_tupT, e_intI, e_isiI, e_isiIB, e_isiT, e_isiS, e_isN, e_isI, e_isS, e_isT, e_sqT, e_sqL, e_sqS, wipeE, IL.envOf, List.map_cons, List.map_nil, List.length_cons, List.length_nil, Nat.zero_add, Nat.reduceSub, Nat.reduceAdd, List.replicate, List.cons_append, List.nil_append, List.set_cons_zero, List.set_cons_succ, List.getElem?_cons_zero, List.getElem?_cons_succ, List.getElem?_nil, restE, Option.join, Option.bind_some, Option.bind_none, id_eq, if_true, if_false, Bool.false_eq_true, Bool.not_true, Bool.not_false, Bool.bne_false, Bool.bne_true, reduceIte, Bool.true_bne, Bool.false_bne, and_true, true_and, fnW]
  exact h
end ILaw

namespace ILaw
open PySem PySem.Spec PyProof.Rows L2 IL TL
variable {Q : TV → Prop}
def iPV (n : Nat) : PV := .int n
def cnt (ws : List (Nat × Nat)) (k : Nat) : Nat := ws.countP fun p => p.1 == k
def pointsL (m : Nat) (ws : List (Nat × Nat)) : List Nat := (List.range m).map (cnt ws)
theorem i_players_of {m : Nat} {ws : List (Nat × Nat)} (hm : m ≤ 8) (h : Q (.own (.lst (rangePV 0 m)))) : F_players_of [gPV m ws] Q := by
  unfold F_players_of b_players_of
  simp only [sSeq, sNext, sRet, sRetN, sRetV, sSet, sIf, sDrop, sTgt, sPar, sNever, wTmps, setAll, sFor, gNm, IL.gTup, gEach, tTrue, tTru, tOf, tNotW, tAndW, tOrW, oAnd, oOr, oNotT, oIf, oChain, oTup, oLst, wArgs, oPrim, withOps, evOps, Opd.ev, oC, oVar, oSl, partEv, oMeth, isStrPV, oComp, oComp2, iSeq, iRange1, iRange2, rgW, oDict0, lift1, lift2, Opr.rd, rdAll, e_rl, Option.map_some, Option.map_none, e_pv, e_po, e_tb, e_ti, e_tn, e_tl, e_tt, e_add, e_addS, e_addL, e_addT, e_sub, e_mul, e_mod, e_fdiv, e_pow, e_neg, e_lt, e_le, e_gt, e_ge, e_eqI, e_lenT, e_lenL, e_lenS, e_lenR, e_tupL, e_tupT, e_intI, e_isiI, e_isiIB, e_isiT, e_isiS, e_isN, e_isI, e_isS, e_isT, e_sqT, e_sqL, e_sqS, wipeE, IL.envOf, List.map_cons, List.map_nil, List.length_cons, List.length_nil, Nat.zero_add, Nat.reduceSub, Nat.reduceAdd, List.replicate, List.cons_append, List.nil_append, List.set_cons_zero, List.set_cons_succ, List.getElem?_cons_zero, List.getElem?_cons_succ, List.getElem?_nil, restE, Option.join, Option.bind_some, Option.bind_none, id_eq, if_true, if_false, Bool.false_eq_true, Bool.not_true, Bool.not_false, Bool.bne_false, Bool.bne_true, reduceIte, Bool.true_bne, Bool.false_bne, and_true, true_and, fnW]
  refine pIx_tup (y := .int m) rfl ?_
  simp only [sSeq, sNext, sRet, sRetN, sRetV, sSet, sIf, sDrop, sTgt, sPar, sNever, wTmps, setAll, sFor, gNm, IL.gTup, gEach, tTrue, tTru, tOf, tNotW, tAndW, tOrW, oAnd, oOr, oNotT, oIf, oChain, oTup, oLst, wArgs, oPrim, withOps, evOps, Opd.ev, oC, oVar, oSl, partEv, oMeth, isStrPV, oComp, oComp2, iSeq, iRange1, iRange2, rgW, oDict0, lift1, lift2, Opr.rd, rdAll, e_rl, Option.map_some, Option.map_none, e_pv, e_po, e_tb, e_ti, e_tn, e_tl, e_tt, e_add, e_addS, e_addL, e_addT, e_sub, e_mul, e_mod, e_fdiv, e_pow, e_neg, e_lt, e_le, e_gt, e_ge, e_eqI, e_lenT, e_lenL, e_lenS, e_lenR, e_tupL, e_tupT, e_intI, e_isiI, e_isiIB, e_isiT, e_isiS, e_isN, e_isI, e_isS, e_isT, e_sqT, e_sqL, e_sqS, wipeE, IL.envOf, List.map_cons, List.map_nil, List.length_cons, List.length_nil, Nat.zero_add, Nat.reduceSub, Nat.reduceAdd, List.replicate, List.cons_append, List.nil_append, List.set_cons_zero, List.set_cons_succ, List.getElem?_cons_zero, List.getElem?_cons_succ, List.getElem?_nil, restE, Option.join, Option.bind_some, Option.bind_none, id_eq, if_true, if_false, Bool.false_eq_true, Bool.not_true, Bool.not_false, Bool.bne_false, Bool.bne_true, reduceIte, Bool.true_bne, Bool.false_bne, and_true, true_and, fnW]
  refine ⟨⟨by omega, by omega⟩, ?_⟩
  rw [Int.toNat_natCast]
  exact ⟨size_le (by rw [rangePV_len]; omega), h⟩
theorem i_points_by {m : Nat} {ws : List (Nat × Nat)} (g : Good m ws) (h : Q (.v (.tup ((pointsL m ws).map iPV)))) : F_points_by [gPV m ws] Q := by
  have hL : (ws.map pPV).length ≤ 64 := by simpa using g.len
  unfold F_points_by b_points_by
  simp only [sSeq, sNext, sRet, sRetN, sRetV, sSet, sIf, sDrop, sTgt, sPar, sNever, wTmps, setAll, sFor, gNm, IL.gTup, gEach, tTrue, tTru, tOf, tNotW, tAndW, tOrW, oAnd, oOr, oNotT, oIf, oChain, oTup, oLst, wArgs, oPrim, withOps, evOps, Opd.ev, oC, oVar, oSl, partEv, oMeth, isStrPV, oComp, oComp2, iSeq, iRange1, iRange2, rgW, oDict0, lift1, lift2, Opr.rd, rdAll, e_rl, Option.map_some, Option.map_none, e_pv, e_po, e_tb, e_ti, e_tn, e_tl, e_tt, e_add, e_addS, e_addL, e_addT, e_sub, e_mul, e_mod, e_fdiv, e_pow, e_neg, e_lt, e_le, e_gt, e_ge, e_eqI, e_lenT, e_lenL, e_lenS, e_lenR, e_tupL, e_tupT, e_intI, e_isiI, e_isiIB, e_isiT, e_isiS, e_isN, e_isI, e_isS, e_isT, e_sqT, e_sqL, e_sqS, wipeE, IL.envOf, List.map_cons, List.map_nil, List.length_cons, List.length_nil, Nat.zero_add, Nat.reduceSub, Nat.reduceAdd, List.replicate, List.cons_append, List.nil_append, List.set_cons_zero, List.set_cons_succ, List.getElem?_cons_zero, List.getElem?_cons_succ, List.getElem?_nil, restE, Option.join, Option.bind_some, Option.bind_none, id_eq, if_true, if_false, Bool.false_eq_true, Bool.not_true, Bool.not_false, Bool.bne_false, Bool.bne_true, reduceIte, Bool.true_bne, Bool.false_bne, and_true, true_and, fnW, oCall]
  refine i_players_of g.m8 ?_
  simp only [sSeq, sNext, sRet, sRetN, sRetV, sSet, sIf, sDrop, sTgt, sPar, sNever, wTmps, setAll, sFor, gNm, IL.gTup, gEach, tTrue, tTru, tOf, tNotW, tAndW, tOrW, oAnd, oOr, oNotT, oIf, oChain, oTup, oLst, wArgs, oPrim, withOps, evOps, Opd.ev, oC, oVar, oSl, partEv, oMeth, isStrPV, oComp, oComp2, iSeq, iRange1, iRange2, rgW, oDict0, lift1, lift2, Opr.rd, rdAll, e_rl, Option.map_some, Option.map_none, e_pv, e_po, e_tb, e_ti, e_tn, e_tl, e_tt, e_add, e_addS, e_addL, e_addT, e_sub, e_mul, e_mod, e_fdiv, e_pow, e_neg, e_lt, e_le, e_gt, e_ge, e_eqI, e_lenT, e_lenL, e_lenS, e_lenR, e_tupL, e_tupT, e_intI, e_isiI, e_isiIB, e_isiT, e_isiS, e_isN, e_isI, e_isS, e_isT, e_sqT, e_sqL, e_sqS, wipeE, IL.envOf, List.map_cons, List.map_nil, List.length_cons, List.length_nil, Nat.zero_add, Nat.reduceSub, Nat.reduceAdd, List.replicate, List.cons_append, List.nil_append, List.set_cons_zero, List.set_cons_succ, List.getElem?_cons_zero, List.getElem?_cons_succ, List.getElem?_nil, restE, Option.join, Option.bind_some, Option.bind_none, id_eq, if_true, if_false, Bool.false_eq_true, Bool.not_true, Bool.not_false, Bool.bne_false, Bool.bne_true, reduceIte, Bool.true_bne, Bool.false_bne, and_true, true_and, fnW]
  refine ⟨size_le (by rw [rangePV_len]; have := g.m8; omega), rfl, ?_⟩
  refine wComp_map (fun _ => .int 0) (fun x hx K acc hk => ?_) ?_
  · simp only [sSeq, sNext, sRet, sRetN, sRetV, sSet, sIf, sDrop, sTgt, sPar, sNever, wTmps, setAll, sFor, gNm, IL.gTup, gEach, tTrue, tTru, tOf, tNotW, tAndW, tOrW, oAnd, oOr, oNotT, oIf, oChain, oTup, oLst, wArgs, oPrim, withOps, evOps, Opd.ev, oC, oVar, oSl, partEv, oMeth, isStrPV, oComp, oComp2, iSeq, iRange1, iRange2, rgW, oDict0, lift1, lift2, Opr.rd, rdAll, e_rl, Option.map_some, Option.map_none, e_pv, e_po, e_tb, e_ti, e_tn, e_tl, e_tt, e_add, e_addS, e_addL, e_addT, e_sub, e_mul, e_mod, e_fdiv, e_pow, e_neg, e_lt, e_le, e_gt, e_ge, e_eqI, e_lenT, e_lenL, e_lenS, e_lenR, e_tupL, e_tupT, e_intI, e_isiI, e_isiIB, e_isiT, e_isiS, e_isN, e_isI, e_isS, e_isT, e_sqT, e_sqL, e_sqS, wipeE, IL.envOf, List.map_cons, List.map_nil, List.length_cons, List.length_nil, Nat.zero_add, Nat.reduceSub, Nat.reduceAdd, List.replicate, List.cons_append, List.nil_append, List.set_cons_zero, List.set_cons_succ, List.getElem?_cons_zero, List.getElem?_cons_succ, List.getElem?_nil, restE, Option.join, Option.bind_some, Option.bind_none, id_eq, if_true, if_false, Bool.false_eq_true, Bool.not_true, Bool.not_false, Bool.bne_false, Bool.bne_true, reduceIte, Bool.true_bne, Bool.false_bne, and_true, true_and, fnW]
    exact hk
  · simp only [sSeq, sNext, sRet, sRetN, sRetV, sSet, sIf, sDrop, sTgt, sPar, sNever, wTmps, setAll, sFor, gNm, IL.gTup, gEach, tTrue, tTru, tOf, tNotW, tAndW, tOrW, oAnd, oOr, oNotT, oIf, oChain, oTup, oLst, wArgs, oPrim, withOps, evOps, Opd.ev, oC, oVar, oSl, partEv, oMeth, isStrPV, oComp, oComp2, iSeq, iRange1, iRange2, rgW, oDict0, lift1, lift2, Opr.rd, rdAll, e_rl, Option.map_some, Option.map_none, e_pv, e_po, e_tb, e_ti, e_tn, e_tl, e_tt, e_add, e_addS, e_addL, e_addT, e_sub, e_mul, e_mod, e_fdiv, e_pow, e_neg, e_lt, e_le, e_gt, e_ge, e_eqI, e_lenT, e_lenL, e_lenS, e_lenR, e_tupL, e_tupT, e_intI, e_isiI, e_isiIB, e_isiT, e_isiS, e_isN, e_isI, e_isS, e_isT, e_sqT, e_sqL, e_sqS, wipeE, IL.envOf, List.map_cons, List.map_nil, List.length_cons, List.length_nil, Nat.zero_add, Nat.reduceSub, Nat.reduceAdd, List.replicate, List.cons_append, List.nil_append, List.set_cons_zero, List.set_cons_succ, List.getElem?_cons_zero, List.getElem?_cons_succ, List.getElem?_nil, restE, Option.join, Option.bind_some, Option.bind_none, id_eq, if_true, if_false, Bool.false_eq_true, Bool.not_true, Bool.not_false, Bool.bne_false, Bool.bne_true, reduceIte, Bool.true_bne, Bool.false_bne, and_true, true_and, fnW]
    refine pIx_tup (y := .tup (ws.map pPV)) rfl ?_
    simp only [sSeq, sNext, sRet, sRetN, sRetV, sSet, sIf, sDrop, sTgt, sPar, sNever, wTmps, setAll, sFor, gNm, IL.gTup, gEach, tTrue, tTru, tOf, tNotW, tAndW, tOrW, oAnd, oOr, oNotT, oIf, oChain, oTup, oLst, wArgs, oPrim, withOps, evOps, Opd.ev, oC, oVar, oSl, partEv, oMeth, isStrPV, oComp, oComp2, iSeq, iRange1, iRange2, rgW, oDict0, lift1, lift2, Opr.rd, rdAll, e_rl, Option.map_some, Option.map_none, e_pv, e_po, e_tb, e_ti, e_tn, e_tl, e_tt, e_add, e_addS, e_addL, e_addT, e_sub, e_mul, e_mod, e_fdiv, e_pow, e_neg, e_lt, e_le, e_gt, e_ge, e_eqI, e_lenT, e_lenL, e_lenS, e_lenR, e_tupL, e_tupT, e_intI, e_isiI, e_isiIB, e_isiT, e_isiS, e_isN, e_isI, e_isS, e_isT, e_sqT, e_sqL, e_sqS, wipeE, IL.envOf, List.map_cons, List.map_nil, List.length_cons, List.length_nil, Nat.zero_add, Nat.reduceSub, Nat.reduceAdd, List.replicate, List.cons_append, List.nil_append, List.set_cons_zero, List.set_cons_succ, List.getElem?_cons_zero, List.getElem?_cons_succ, List.getElem?_nil, restE, Option.join, Option.bind_some, Option.bind_none, id_eq, if_true, if_false, Bool.false_eq_true, Bool.not_true, Bool.not_false, Bool.bne_false, Bool.bne_true, reduceIte, Bool.true_bne, Bool.false_bne, and_true, true_and, fnW]
    refine wFor_inv (fun xs e => ∃ pre suf a b, ws = pre ++ suf ∧ xs = suf.map pPV ∧ e = [some (.v (gPV m ws)), some (.own (.lst ((pointsL m pre).map iPV))), a, b]) (fun e ⟨pre, suf, a, b, h1, h2, h3⟩ => ?_) ⟨[], ws, none, none, rfl, rfl, ?_⟩ (fun x xs e ⟨pre, suf, a, b, h1, h2, h3⟩ K hK => ?_)
    · subst h3
      have h2 : suf = [] := List.map_eq_nil_iff.mp h2.symm
      subst h2
      rw [List.append_nil] at h1
      subst h1
      simp only [sSeq, sNext, sRet, sRetN, sRetV, sSet, sIf, sDrop, sTgt, sPar, sNever, wTmps, setAll, sFor, gNm, IL.gTup, gEach, tTrue, tTru, tOf, tNotW, tAndW, tOrW, oAnd, oOr, oNotT, oIf, oChain, oTup, oLst, wArgs, oPrim, withOps, evOps, Opd.ev, oC, oVar, oSl, partEv, oMeth, isStrPV, oComp, oComp2, iSeq, iRange1, iRange2, rgW, oDict0, lift1, lift2, Opr.rd, rdAll, e_rl, Option.map_some, Option.map_none, e_pv, e_po, e_tb, e_ti, e_tn, e_tl, e_tt, e_add, e_addS, e_addL, e_addT, e_sub, e_mul, e_mod, e_fdiv, e_pow, e_neg, e_lt, e_le, e_gt, e_ge, e_eqI, e_lenT, e_lenL, e_lenS, e_lenR, e_tupL, e_tupT, e_intI, e_isiI, e_isiIB, e_isiT, e_isiS, e_isN, e_isI, e_isS, e_isT, e_sqT, e_sqL, e_sqS, wipeE, IL.envOf, List.map_cons, List.map_nil, List.length_cons, List.length_nil, Nat.zero_add, Nat.reduceSub, Nat.reduceAdd, List.replicate, List.cons_append, List.nil_append, List.set_cons_zero, List.set_cons_succ, List.getElem?_cons_zero, List.getElem?_cons_succ, List.getElem?_nil, restE, Option.join, Option.bind_some, Option.bind_none, id_eq, if_true, if_false, Bool.false_eq_true, Bool.not_true, Bool.not_false, Bool.bne_false, Bool.bne_true, reduceIte, Bool.true_bne, Bool.false_bne, and_true, true_and, fnW]
      exact h
    · congr 3
      unfold pointsL
      rw [List.map_map]
      unfold rangePV
      rw [List.map_map]
      rfl
    · subst h3
      cases suf with
      | nil => cases h2
      | cons p suf =>
        rw [List.map_cons] at h2
        injection h2 with h2 h3
        subst h2 h3
        have hr := g.rng p (by rw [h1]; simp)
        have hlen : ((pointsL m pre).map iPV).length = m := by simp [pointsL]
        have hat : ((pointsL m pre).map iPV)[p.1]? = some (iPV (cnt pre p.1)) := by
          unfold pointsL
          rw [List.getElem?_map, List.getElem?_map, List.getElem?_range hr.1]
          rfl
        simp only [sSeq, sNext, sRet, sRetN, sRetV, sSet, sIf, sDrop, sTgt, sPar, sNever, wTmps, setAll, sFor, gNm, IL.gTup, gEach, tTrue, tTru, tOf, tNotW, tAndW, tOrW, oAnd, oOr, oNotT, oIf, oChain, oTup, oLst, wArgs, oPrim, withOps, evOps, Opd.ev, oC, oVar, oSl, partEv, oMeth, isStrPV, oComp, oComp2, iSeq, iRange1, iRange2, rgW, oDict0, lift1, lift2, Opr.rd, rdAll, e_rl, Option.map_some, Option.map_none, e_pv, e_po, e_tb, e_ti, e_tn, e_tl, e_tt, e_add, e_addS, e_addL, e_addT, e_sub, e_mul, e_mod, e_fdiv, e_pow, e_neg, e_lt, e_le, e_gt, e_ge, e_eqI, e_lenT, e_lenL, e_lenS, e_lenR, e_tupL, e_tupT, e_intI, e_isiI, e_isiIB, e_isiT, e_isiS, e_isN, e_isI, e_isS, e_isT, e_sqT, e_sqL, e_sqS, wipeE, IL.envOf, List.map_cons, List.map_nil, List.length_cons, List.length_nil, Nat.zero_add, Nat.reduceSub, Nat.reduceAdd, List.replicate, List.cons_append, List.nil_append, List.set_cons_zero, List.set_cons_succ, List.getElem?_cons_zero, List.getElem?_cons_succ, List.getElem?_nil, restE, Option.join, Option.bind_some, Option.bind_none, id_eq, if_true, if_false, Bool.false_eq_true, Bool.not_true, Bool.not_false, Bool.bne_false, Bool.bne_true, reduceIte, Bool.true_bne, Bool.false_bne, and_true, true_and, fnW, pPV]
        refine pIx_lst (y := iPV (cnt pre p.1)) (atI_at rfl hat) ?_
        simp only [sSeq, sNext, sRet, sRetN, sRetV, sSet, sIf, sDrop, sTgt, sPar, sNever, wTmps, setAll, sFor, gNm, IL.gTup, gEach, tTrue, tTru, tOf, tNotW, tAndW, tOrW, oAnd, oOr, oNotT, oIf, oChain, oTup, oLst, wArgs, oPrim, withOps, evOps, Opd.ev, oC, oVar, oSl, partEv, oMeth, isStrPV, oComp, oComp2, iSeq, iRange1, iRange2, rgW, oDict0, lift1, lift2, Opr.rd, rdAll, e_rl, Option.map_some, Option.map_none, e_pv, e_po, e_tb, e_ti, e_tn, e_tl, e_tt, e_add, e_addS, e_addL, e_addT, e_sub, e_mul, e_mod, e_fdiv, e_pow, e_neg, e_lt, e_le, e_gt, e_ge, e_eqI, e_lenT, e_lenL, e_lenS, e_lenR, e_tupL, e_tupT, e_intI, e_isiI, e_isiIB, e_isiT, e_isiS, e_isN, e_isI, e_isS, e_isT, e_sqT, e_sqL, e_sqS, wipeE, IL.envOf, List.map_cons, List.map_nil, List.length_cons, List.length_nil, Nat.zero_add, Nat.reduceSub, Nat.reduceAdd, List.replicate, List.cons_append, List.nil_append, List.set_cons_zero, List.set_cons_succ, List.getElem?_cons_zero, List.getElem?_cons_succ, List.getElem?_nil, restE, Option.join, Option.bind_some, Option.bind_none, id_eq, if_true, if_false, Bool.false_eq_true, Bool.not_true, Bool.not_false, Bool.bne_false, Bool.bne_true, reduceIte, Bool.true_bne, Bool.false_bne, and_true, true_and, fnW, iPV]
        simp only [sSeq, sNext, sRet, sRetN, sRetV, sSet, sIf, sDrop, sTgt, sPar, sNever, wTmps, setAll, sFor, gNm, IL.gTup, gEach, tTrue, tTru, tOf, tNotW, tAndW, tOrW, oAnd, oOr, oNotT, oIf, oChain, oTup, oLst, wArgs, oPrim, withOps, evOps, Opd.ev, oC, oVar, oSl, partEv, oMeth, isStrPV, oComp, oComp2, iSeq, iRange1, iRange2, rgW, oDict0, lift1, lift2, Opr.rd, rdAll, e_rl, Option.map_some, Option.map_none, e_pv, e_po, e_tb, e_ti, e_tn, e_tl, e_tt, e_add, e_addS, e_addL, e_addT, e_sub, e_mul, e_mod, e_fdiv, e_pow, e_neg, e_lt, e_le, e_gt, e_ge, e_eqI, e_lenT, e_lenL, e_lenS, e_lenR, e_tupL, e_tupT, e_intI, e_isiI, e_isiIB, e_isiT, e_isiS, e_isN, e_isI, e_isS, e_isT, e_sqT, e_sqL, e_sqS, wipeE, IL.envOf, List.map_cons, List.map_nil, List.length_cons, List.length_nil, Nat.zero_add, Nat.reduceSub, Nat.reduceAdd, List.replicate, List.cons_append, List.nil_append, List.set_cons_zero, List.set_cons_succ, List.getElem?_cons_zero, List.getElem?_cons_succ, List.getElem?_nil, restE, Option.join, Option.bind_some, Option.bind_none, id_eq, if_true, if_false, Bool.false_eq_true, Bool.not_true, Bool.not_false, Bool.bne_false, Bool.bne_true, reduceIte, Bool.true_bne, Bool.false_bne, and_true, true_and, fnW, gPut, ownA, roomPV, putPV, hlen, ixN_nat hr.1]
        have hs : ((pointsL m pre).map iPV).set p.1 (.int (((cnt pre p.1 : Nat) : Int) + 1)) = (pointsL m (pre ++ [p])).map iPV := ?hs
        rw [hs]
        exact hK _ ⟨pre ++ [p], suf, _, _, by rw [h1]; simp, rfl, rfl⟩
        apply List.ext_getElem?
        intro k
        by_cases hk : k = p.1
        · subst hk
          rw [List.getElem?_set_self (by rw [hlen]; exact hr.1)]
          unfold pointsL
          rw [List.getElem?_map, List.getElem?_map, List.getElem?_range hr.1]
          simp [iPV, cnt]
        · rw [List.getElem?_set_ne (Ne.symm hk)]
          unfold pointsL
          rw [List.getElem?_map, List.getElem?_map, List.getElem?_map, List.getElem?_map]
          have hf : cnt (pre ++ [p]) k = cnt pre k := by
            simp [cnt, List.countP_append, Ne.symm hk]
          by_cases hkm : k < m
          · rw [List.getElem?_range hkm]
            show some (iPV (cnt pre k)) = some (iPV (cnt (pre ++ [p]) k))
            rw [hf]
          · rw [List.getElem?_eq_none (by simpa using hkm)]
            rfl
end ILaw

namespace ILaw
open PySem PySem.Spec PyProof.Rows L2 IL TL
variable {Q : TV → Prop}
theorem tlD : tl ("0123456789" : Str) = [48, 49, 50, 51, 52, 53, 54, 55, 56, 57] := by decide +kernel
theorem tl0 : tl ("0" : Str) = [48] := by decide +kernel
theorem ok0 : PyData.strOk ("0" : Str) = true := by decide +kernel
theorem okE : PyData.strOk ("" : Str) = true := by decide +kernel
theorem pNotIn_digit {c : Nat} (hc : 48 ≤ c ∧ c ≤ 57) (q : Q (.v (.bl false))) : pIn true (.str ⟨#[c]⟩) (.str "0123456789") Q := by
  show Q (.v (.bl (decide (c ∈ tl ("0123456789" : Str)) != true)))
  have : c ∈ tl ("0123456789" : Str) := by
    rw [tlD]
    simp only [List.mem_cons, List.not_mem_nil, or_false]
    omega
  rw [decide_eq_true this]
  exact q
theorem numL_head {n : Nat} (h : 0 < n) : ∃ c r, numL n = c :: r ∧ 48 < c ∧ c ≤ 57 := by
  induction n using Nat.strongRecOn with
  | _ n ih =>
    by_cases h10 : n < 10
    · exact ⟨48 + n, [], numL_lt h10, by omega, by omega⟩
    · obtain ⟨c, r, e, h1, h2⟩ := ih (n / 10) (by omega) (by omega)
      exact ⟨c, r ++ [48 + n % 10], by rw [numL_step (by omega), e]; rfl, h1, h2⟩
theorem strPV_mem {x : Str} {y : PV} (h : y ∈ strPV x) : ∃ c ∈ tl x, y = .str ⟨#[c]⟩ := by
  obtain ⟨c, hc, rfl⟩ := List.mem_map.mp h
  exact ⟨c, hc, rfl⟩
theorem strPV_len {x : Str} : (strPV x).length = x.length := by
  unfold strPV
  rw [List.length_map, TL.len_tl]
theorem num_neE (n : Nat) : (num n == ("" : Str)) = false := by
  apply beq_eq_false_iff_ne.mpr
  intro e
  have := congrArg tl e
  rw [tl_num', tlE] at this
  exact numL_ne n this
theorem num_zero : num 0 = ("0" : Str) := by
  apply ext_tl
  rw [tl_num', tl0]
  rfl
theorem numlen {n : Nat} (hn : n < 10 ^ 100) : (num n).length ≤ 100 := by rw [TL.len_tl, tl_num']; exact numL_len (by decide) hn
theorem i_is_figures {n : Nat} (hn : n < 10 ^ 100) (h : Q (.v (.bl true))) : F_is_figures [.str (num n)] Q := by
  have hl := numlen hn
  unfold F_is_figures b_is_figures
  simp only [sSeq, sNext, sRet, sRetN, sRetV, sSet, sIf, sDrop, sTgt, sPar, sNever, wTmps, setAll, sFor, gNm, IL.gTup, gEach, tTrue, tTru, tOf, tNotW, tAndW, tOrW, oAnd, oOr, oNotT, oIf, oChain, oTup, oLst, wArgs, oPrim, withOps, evOps, Opd.ev, oC, oVar, oSl, partEv, oMeth, isStrPV, oComp, oComp2, iSeq, iRange1, iRange2, rgW, oDict0, lift1, lift2, Opr.rd, rdAll, e_rl, Option.map_some, Option.map_none, e_pv, e_po, e_tb, e_ti, e_tn, e_tl, e_tt, e_add, e_addS, e_addL, e_addT, e_sub, e_mul, e_mod, e_fdiv, e_pow, e_neg, e_lt, e_le, e_gt, e_ge, e_eqI, e_lenT, e_lenL, e_lenS, e_lenR, e_tupL, e_tupT, e_intI, e_isiI, e_isiIB, e_isiT, e_isiS, e_isN, e_isI, e_isS, e_isT, e_sqT, e_sqL, e_sqS, wipeE, IL.envOf, List.map_cons, List.map_nil, List.length_cons, List.length_nil, Nat.zero_add, Nat.reduceSub, Nat.reduceAdd, List.replicate, List.cons_append, List.nil_append, List.set_cons_zero, List.set_cons_succ, List.getElem?_cons_zero, List.getElem?_cons_succ, List.getElem?_nil, restE, Option.join, Option.bind_some, Option.bind_none, id_eq, if_true, if_false, Bool.false_eq_true, Bool.not_true, Bool.not_false, Bool.bne_false, Bool.bne_true, reduceIte, Bool.true_bne, Bool.false_bne, and_true, true_and, fnW]
  refine pEq_str num_ok okE ?_
  simp only [sSeq, sNext, sRet, sRetN, sRetV, sSet, sIf, sDrop, sTgt, sPar, sNever, wTmps, setAll, sFor, gNm, IL.gTup, gEach, tTrue, tTru, tOf, tNotW, tAndW, tOrW, oAnd, oOr, oNotT, oIf, oChain, oTup, oLst, wArgs, oPrim, withOps, evOps, Opd.ev, oC, oVar, oSl, partEv, oMeth, isStrPV, oComp, oComp2, iSeq, iRange1, iRange2, rgW, oDict0, lift1, lift2, Opr.rd, rdAll, e_rl, Option.map_some, Option.map_none, e_pv, e_po, e_tb, e_ti, e_tn, e_tl, e_tt, e_add, e_addS, e_addL, e_addT, e_sub, e_mul, e_mod, e_fdiv, e_pow, e_neg, e_lt, e_le, e_gt, e_ge, e_eqI, e_lenT, e_lenL, e_lenS, e_lenR, e_tupL, e_tupT, e_intI, e_isiI, e_isiIB, e_isiT, e_isiS, e_isN, e_isI, e_isS, e_isT, e_sqT, e_sqL, e_sqS, wipeE, IL.envOf, List.map_cons, List.map_nil, List.length_cons, List.length_nil, Nat.zero_add, Nat.reduceSub, Nat.reduceAdd, List.replicate, List.cons_append, List.nil_append, List.set_cons_zero, List.set_cons_succ, List.getElem?_cons_zero, List.getElem?_cons_succ, List.getElem?_nil, restE, Option.join, Option.bind_some, Option.bind_none, id_eq, if_true, if_false, Bool.false_eq_true, Bool.not_true, Bool.not_false, Bool.bne_false, Bool.bne_true, reduceIte, Bool.true_bne, Bool.false_bne, and_true, true_and, fnW, num_neE n]
  refine ⟨size_le (by rw [strPV_len]; omega), rfl, ?_⟩
  refine wComp_map (fun _ => .bl false) (fun x hx K acc hk => ?_) ?_
  · obtain ⟨c, hc, rfl⟩ := strPV_mem hx
    rw [tl_num'] at hc
    simp only [sSeq, sNext, sRet, sRetN, sRetV, sSet, sIf, sDrop, sTgt, sPar, sNever, wTmps, setAll, sFor, gNm, IL.gTup, gEach, tTrue, tTru, tOf, tNotW, tAndW, tOrW, oAnd, oOr, oNotT, oIf, oChain, oTup, oLst, wArgs, oPrim, withOps, evOps, Opd.ev, oC, oVar, oSl, partEv, oMeth, isStrPV, oComp, oComp2, iSeq, iRange1, iRange2, rgW, oDict0, lift1, lift2, Opr.rd, rdAll, e_rl, Option.map_some, Option.map_none, e_pv, e_po, e_tb, e_ti, e_tn, e_tl, e_tt, e_add, e_addS, e_addL, e_addT, e_sub, e_mul, e_mod, e_fdiv, e_pow, e_neg, e_lt, e_le, e_gt, e_ge, e_eqI, e_lenT, e_lenL, e_lenS, e_lenR, e_tupL, e_tupT, e_intI, e_isiI, e_isiIB, e_isiT, e_isiS, e_isN, e_isI, e_isS, e_isT, e_sqT, e_sqL, e_sqS, wipeE, IL.envOf, List.map_cons, List.map_nil, List.length_cons, List.length_nil, Nat.zero_add, Nat.reduceSub, Nat.reduceAdd, List.replicate, List.cons_append, List.nil_append, List.set_cons_zero, List.set_cons_succ, List.getElem?_cons_zero, List.getElem?_cons_succ, List.getElem?_nil, restE, Option.join, Option.bind_some, Option.bind_none, id_eq, if_true, if_false, Bool.false_eq_true, Bool.not_true, Bool.not_false, Bool.bne_false, Bool.bne_true, reduceIte, Bool.true_bne, Bool.false_bne, and_true, true_and, fnW]
    exact pNotIn_digit (numL_digits n c hc) hk
  · refine pAny_false (fun x hx => ?_) ?_
    · rw [List.nil_append] at hx
      obtain ⟨_, _, rfl⟩ := List.mem_map.mp hx
      rfl
    · simp only [sSeq, sNext, sRet, sRetN, sRetV, sSet, sIf, sDrop, sTgt, sPar, sNever, wTmps, setAll, sFor, gNm, IL.gTup, gEach, tTrue, tTru, tOf, tNotW, tAndW, tOrW, oAnd, oOr, oNotT, oIf, oChain, oTup, oLst, wArgs, oPrim, withOps, evOps, Opd.ev, oC, oVar, oSl, partEv, oMeth, isStrPV, oComp, oComp2, iSeq, iRange1, iRange2, rgW, oDict0, lift1, lift2, Opr.rd, rdAll, e_rl, Option.map_some, Option.map_none, e_pv, e_po, e_tb, e_ti, e_tn, e_tl, e_tt, e_add, e_addS, e_addL, e_addT, e_sub, e_mul, e_mod, e_fdiv, e_pow, e_neg, e_lt, e_le, e_gt, e_ge, e_eqI, e_lenT, e_lenL, e_lenS, e_lenR, e_tupL, e_tupT, e_intI, e_isiI, e_isiIB, e_isiT, e_isiS, e_isN, e_isI, e_isS, e_isT, e_sqT, e_sqL, e_sqS, wipeE, IL.envOf, List.map_cons, List.map_nil, List.length_cons, List.length_nil, Nat.zero_add, Nat.reduceSub, Nat.reduceAdd, List.replicate, List.cons_append, List.nil_append, List.set_cons_zero, List.set_cons_succ, List.getElem?_cons_zero, List.getElem?_cons_succ, List.getElem?_nil, restE, Option.join, Option.bind_some, Option.bind_none, id_eq, if_true, if_false, Bool.false_eq_true, Bool.not_true, Bool.not_false, Bool.bne_false, Bool.bne_true, reduceIte, Bool.true_bne, Bool.false_bne, and_true, true_and, fnW]
      refine pEq_str num_ok ok0 ?_
      by_cases h0 : n = 0
      · subst h0
        simp only [sSeq, sNext, sRet, sRetN, sRetV, sSet, sIf, sDrop, sTgt, sPar, sNever, wTmps, setAll, sFor, gNm, IL.gTup, gEach, tTrue, tTru, tOf, tNotW, tAndW, tOrW, oAnd, oOr, oNotT, oIf, oChain, oTup, oLst, wArgs, oPrim, withOps, evOps, Opd.ev, oC, oVar, oSl, partEv, oMeth, isStrPV, oComp, oComp2, iSeq, iRange1, iRange2, rgW, oDict0, lift1, lift2, Opr.rd, rdAll, e_rl, Option.map_some, Option.map_none, e_pv, e_po, e_tb, e_ti, e_tn, e_tl, e_tt, e_add, e_addS, e_addL, e_addT, e_sub, e_mul, e_mod, e_fdiv, e_pow, e_neg, e_lt, e_le, e_gt, e_ge, e_eqI, e_lenT, e_lenL, e_lenS, e_lenR, e_tupL, e_tupT, e_intI, e_isiI, e_isiIB, e_isiT, e_isiS, e_isN, e_isI, e_isS, e_isT, e_sqT, e_sqL, e_sqS, wipeE, IL.envOf, List.map_cons, List.map_nil, List.length_cons, List.length_nil, Nat.zero_add, Nat.reduceSub, Nat.reduceAdd, List.replicate, List.cons_append, List.nil_append, List.set_cons_zero, List.set_cons_succ, List.getElem?_cons_zero, List.getElem?_cons_succ, List.getElem?_nil, restE, Option.join, Option.bind_some, Option.bind_none, id_eq, if_true, if_false, Bool.false_eq_true, Bool.not_true, Bool.not_false, Bool.bne_false, Bool.bne_true, reduceIte, Bool.true_bne, Bool.false_bne, and_true, true_and, fnW, num_zero, beq_self_eq_true]
        exact h
      · have hne : (num n == ("0" : Str)) = false := by
          apply beq_eq_false_iff_ne.mpr
          intro e
          rw [← num_zero] at e
          exact h0 (num_inj e)
        simp only [sSeq, sNext, sRet, sRetN, sRetV, sSet, sIf, sDrop, sTgt, sPar, sNever, wTmps, setAll, sFor, gNm, IL.gTup, gEach, tTrue, tTru, tOf, tNotW, tAndW, tOrW, oAnd, oOr, oNotT, oIf, oChain, oTup, oLst, wArgs, oPrim, withOps, evOps, Opd.ev, oC, oVar, oSl, partEv, oMeth, isStrPV, oComp, oComp2, iSeq, iRange1, iRange2, rgW, oDict0, lift1, lift2, Opr.rd, rdAll, e_rl, Option.map_some, Option.map_none, e_pv, e_po, e_tb, e_ti, e_tn, e_tl, e_tt, e_add, e_addS, e_addL, e_addT, e_sub, e_mul, e_mod, e_fdiv, e_pow, e_neg, e_lt, e_le, e_gt, e_ge, e_eqI, e_lenT, e_lenL, e_lenS, e_lenR, e_tupL, e_tupT, e_intI, e_isiI, e_isiIB, e_isiT, e_isiS, e_isN, e_isI, e_isS, e_isT, e_sqT, e_sqL, e_sqS, wipeE, IL.envOf, List.map_cons, List.map_nil, List.length_cons, List.length_nil, Nat.zero_add, Nat.reduceSub, Nat.reduceAdd, List.replicate, List.cons_append, List.nil_append, List.set_cons_zero, List.set_cons_succ, List.getElem?_cons_zero, List.getElem?_cons_succ, List.getElem?_nil, restE, Option.join, Option.bind_some, Option.bind_none, id_eq, if_true, if_false, Bool.false_eq_true, Bool.not_true, Bool.not_false, Bool.bne_false, Bool.bne_true, reduceIte, Bool.true_bne, Bool.false_bne, and_true, true_and, fnW, hne]
        obtain ⟨c, r, e, h1, h2⟩ := numL_head (n := n) (by omega)
        refine ⟨size_le (by omega), ?_⟩
        have e2 : (num n).cps.toList = c :: r := by
          have := tl_num' n
          rw [e] at this
          exact this
        have e3 : atI (num n).cps.toList 0 = some c := by
          rw [e2]
          exact atI_at (j := 0) rfl rfl
        rw [e3]
        simp only [sSeq, sNext, sRet, sRetN, sRetV, sSet, sIf, sDrop, sTgt, sPar, sNever, wTmps, setAll, sFor, gNm, IL.gTup, gEach, tTrue, tTru, tOf, tNotW, tAndW, tOrW, oAnd, oOr, oNotT, oIf, oChain, oTup, oLst, wArgs, oPrim, withOps, evOps, Opd.ev, oC, oVar, oSl, partEv, oMeth, isStrPV, oComp, oComp2, iSeq, iRange1, iRange2, rgW, oDict0, lift1, lift2, Opr.rd, rdAll, e_rl, Option.map_some, Option.map_none, e_pv, e_po, e_tb, e_ti, e_tn, e_tl, e_tt, e_add, e_addS, e_addL, e_addT, e_sub, e_mul, e_mod, e_fdiv, e_pow, e_neg, e_lt, e_le, e_gt, e_ge, e_eqI, e_lenT, e_lenL, e_lenS, e_lenR, e_tupL, e_tupT, e_intI, e_isiI, e_isiIB, e_isiT, e_isiS, e_isN, e_isI, e_isS, e_isT, e_sqT, e_sqL, e_sqS, wipeE, IL.envOf, List.map_cons, List.map_nil, List.length_cons, List.length_nil, Nat.zero_add, Nat.reduceSub, Nat.reduceAdd, List.replicate, List.cons_append, List.nil_append, List.set_cons_zero, List.set_cons_succ, List.getElem?_cons_zero, List.getElem?_cons_succ, List.getElem?_nil, restE, Option.join, Option.bind_some, Option.bind_none, id_eq, if_true, if_false, Bool.false_eq_true, Bool.not_true, Bool.not_false, Bool.bne_false, Bool.bne_true, reduceIte, Bool.true_bne, Bool.false_bne, and_true, true_and, fnW]
        have hk : PyData.strOk ⟨#[c]⟩ = true := strOk_tl fun d hd => by
          rw [List.mem_singleton.mp hd]; omega
        refine pEq_str hk ok0 ?_
        have hne : ((⟨#[c]⟩ : Str) == ("0" : Str)) = false := by
          apply beq_eq_false_iff_ne.mpr
          intro e
          have := congrArg tl e
          rw [tl0] at this
          have : c = 48 := by injection this
          omega
        rw [hne]
        exact h
def nPV (n : Nat) : PV := .str (num n)
def rdPV : PV → PV
  | .str z => (match PySem.intText? z with | some i => .int i | none => .non)
  | _ => .non
theorem rd_n {n : Nat} (h : n < 10 ^ 100) : rdPV (nPV n) = iPV n := by
  show (match PySem.intText? (num n) with | some i => PV.int i | none => .non) = _
  rw [(num_read h).2]
  rfl
def shPV : PV → PV
  | .int i => .str (num i.toNat)
  | _ => .non
theorem i_numbers_in {ns : List Nat} (hb : ∀ n ∈ ns, n < 10 ^ 100) (hl : ns.length ≤ 100) (h : Q (.own (.lst [.tup (ns.map iPV)]))) : F_numbers_in [.lst (ns.map nPV)] Q := by
  have hL : (ns.map nPV).length ≤ 100 := by simpa using hl
  unfold F_numbers_in b_numbers_in
  simp only [sSeq, sNext, sRet, sRetN, sRetV, sSet, sIf, sDrop, sTgt, sPar, sNever, wTmps, setAll, sFor, gNm, IL.gTup, gEach, tTrue, tTru, tOf, tNotW, tAndW, tOrW, oAnd, oOr, oNotT, oIf, oChain, oTup, oLst, wArgs, oPrim, withOps, evOps, Opd.ev, oC, oVar, oSl, partEv, oMeth, isStrPV, oComp, oComp2, iSeq, iRange1, iRange2, rgW, oDict0, lift1, lift2, Opr.rd, rdAll, e_rl, Option.map_some, Option.map_none, e_pv, e_po, e_tb, e_ti, e_tn, e_tl, e_tt, e_add, e_addS, e_addL, e_addT, e_sub, e_mul, e_mod, e_fdiv, e_pow, e_neg, e_lt, e_le, e_gt, e_ge, e_eqI, e_lenT, e_lenL, e_lenS, e_lenR, e_tupL, e_tupT, e_intI, e_isiI, e_isiIB, e_isiT, e_isiS, e_isN, e_isI, e_isS, e_isT, e_sqT, e_sqL, e_sqS, wipeE, IL.envOf, List.map_cons, List.map_nil, List.length_cons, List.length_nil, Nat.zero_add, Nat.reduceSub, Nat.reduceAdd, List.replicate, List.cons_append, List.nil_append, List.set_cons_zero, List.set_cons_succ, List.getElem?_cons_zero, List.getElem?_cons_succ, List.getElem?_nil, restE, Option.join, Option.bind_some, Option.bind_none, id_eq, if_true, if_false, Bool.false_eq_true, Bool.not_true, Bool.not_false, Bool.bne_false, Bool.bne_true, reduceIte, Bool.true_bne, Bool.false_bne, and_true, true_and, fnW]
  refine ⟨size_le (by omega), rfl, ?_⟩
  refine wComp_map (fun _ => .bl true) (fun x hx K acc hk => ?_) ?_
  · obtain ⟨n, hn, rfl⟩ := List.mem_map.mp hx
    simp only [sSeq, sNext, sRet, sRetN, sRetV, sSet, sIf, sDrop, sTgt, sPar, sNever, wTmps, setAll, sFor, gNm, IL.gTup, gEach, tTrue, tTru, tOf, tNotW, tAndW, tOrW, oAnd, oOr, oNotT, oIf, oChain, oTup, oLst, wArgs, oPrim, withOps, evOps, Opd.ev, oC, oVar, oSl, partEv, oMeth, isStrPV, oComp, oComp2, iSeq, iRange1, iRange2, rgW, oDict0, lift1, lift2, Opr.rd, rdAll, e_rl, Option.map_some, Option.map_none, e_pv, e_po, e_tb, e_ti, e_tn, e_tl, e_tt, e_add, e_addS, e_addL, e_addT, e_sub, e_mul, e_mod, e_fdiv, e_pow, e_neg, e_lt, e_le, e_gt, e_ge, e_eqI, e_lenT, e_lenL, e_lenS, e_lenR, e_tupL, e_tupT, e_intI, e_isiI, e_isiIB, e_isiT, e_isiS, e_isN, e_isI, e_isS, e_isT, e_sqT, e_sqL, e_sqS, wipeE, IL.envOf, List.map_cons, List.map_nil, List.length_cons, List.length_nil, Nat.zero_add, Nat.reduceSub, Nat.reduceAdd, List.replicate, List.cons_append, List.nil_append, List.set_cons_zero, List.set_cons_succ, List.getElem?_cons_zero, List.getElem?_cons_succ, List.getElem?_nil, restE, Option.join, Option.bind_some, Option.bind_none, id_eq, if_true, if_false, Bool.false_eq_true, Bool.not_true, Bool.not_false, Bool.bne_false, Bool.bne_true, reduceIte, Bool.true_bne, Bool.false_bne, and_true, true_and, fnW, oCall]
    refine i_is_figures (hb n hn) ?_
    exact hk
  · refine pAll_true (fun x hx => ?_) ?_
    · rw [List.nil_append] at hx
      obtain ⟨_, _, rfl⟩ := List.mem_map.mp hx
      rfl
    · simp only [sSeq, sNext, sRet, sRetN, sRetV, sSet, sIf, sDrop, sTgt, sPar, sNever, wTmps, setAll, sFor, gNm, IL.gTup, gEach, tTrue, tTru, tOf, tNotW, tAndW, tOrW, oAnd, oOr, oNotT, oIf, oChain, oTup, oLst, wArgs, oPrim, withOps, evOps, Opd.ev, oC, oVar, oSl, partEv, oMeth, isStrPV, oComp, oComp2, iSeq, iRange1, iRange2, rgW, oDict0, lift1, lift2, Opr.rd, rdAll, e_rl, Option.map_some, Option.map_none, e_pv, e_po, e_tb, e_ti, e_tn, e_tl, e_tt, e_add, e_addS, e_addL, e_addT, e_sub, e_mul, e_mod, e_fdiv, e_pow, e_neg, e_lt, e_le, e_gt, e_ge, e_eqI, e_lenT, e_lenL, e_lenS, e_lenR, e_tupL, e_tupT, e_intI, e_isiI, e_isiIB, e_isiT, e_isiS, e_isN, e_isI, e_isS, e_isT, e_sqT, e_sqL, e_sqS, wipeE, IL.envOf, List.map_cons, List.map_nil, List.length_cons, List.length_nil, Nat.zero_add, Nat.reduceSub, Nat.reduceAdd, List.replicate, List.cons_append, List.nil_append, List.set_cons_zero, List.set_cons_succ, List.getElem?_cons_zero, List.getElem?_cons_succ, List.getElem?_nil, restE, Option.join, Option.bind_some, Option.bind_none, id_eq, if_true, if_false, Bool.false_eq_true, Bool.not_true, Bool.not_false, Bool.bne_false, Bool.bne_true, reduceIte, Bool.true_bne, Bool.false_bne, and_true, true_and, fnW]
      refine ⟨size_le (by omega), rfl, ?_⟩
      have e : (ns.map nPV).map rdPV = ns.map iPV := by
        rw [List.map_map]
        apply List.map_congr_left
        intro n hn
        exact rd_n (hb n hn)
      rw [← e] at h
      refine wComp_map rdPV (fun x hx K acc hk => ?_) ?_
      · obtain ⟨n, hn, rfl⟩ := List.mem_map.mp hx
        rw [rd_n (hb n hn)] at hk
        simp only [sSeq, sNext, sRet, sRetN, sRetV, sSet, sIf, sDrop, sTgt, sPar, sNever, wTmps, setAll, sFor, gNm, IL.gTup, gEach, tTrue, tTru, tOf, tNotW, tAndW, tOrW, oAnd, oOr, oNotT, oIf, oChain, oTup, oLst, wArgs, oPrim, withOps, evOps, Opd.ev, oC, oVar, oSl, partEv, oMeth, isStrPV, oComp, oComp2, iSeq, iRange1, iRange2, rgW, oDict0, lift1, lift2, Opr.rd, rdAll, e_rl, Option.map_some, Option.map_none, e_pv, e_po, e_tb, e_ti, e_tn, e_tl, e_tt, e_add, e_addS, e_addL, e_addT, e_sub, e_mul, e_mod, e_fdiv, e_pow, e_neg, e_lt, e_le, e_gt, e_ge, e_eqI, e_lenT, e_lenL, e_lenS, e_lenR, e_tupL, e_tupT, e_intI, e_isiI, e_isiIB, e_isiT, e_isiS, e_isN, e_isI, e_isS, e_isT, e_sqT, e_sqL, e_sqS, wipeE, IL.envOf, List.map_cons, List.map_nil, List.length_cons, List.length_nil, Nat.zero_add, Nat.reduceSub, Nat.reduceAdd, List.replicate, List.cons_append, List.nil_append, List.set_cons_zero, List.set_cons_succ, List.getElem?_cons_zero, List.getElem?_cons_succ, List.getElem?_nil, restE, Option.join, Option.bind_some, Option.bind_none, id_eq, if_true, if_false, Bool.false_eq_true, Bool.not_true, Bool.not_false, Bool.bne_false, Bool.bne_true, reduceIte, Bool.true_bne, Bool.false_bne, and_true, true_and, fnW]
        exact pInt_num (hb n hn) hk
      · simp only [sSeq, sNext, sRet, sRetN, sRetV, sSet, sIf, sDrop, sTgt, sPar, sNever, wTmps, setAll, sFor, gNm, IL.gTup, gEach, tTrue, tTru, tOf, tNotW, tAndW, tOrW, oAnd, oOr, oNotT, oIf, oChain, oTup, oLst, wArgs, oPrim, withOps, evOps, Opd.ev, oC, oVar, oSl, partEv, oMeth, isStrPV, oComp, oComp2, iSeq, iRange1, iRange2, rgW, oDict0, lift1, lift2, Opr.rd, rdAll, e_rl, Option.map_some, Option.map_none, e_pv, e_po, e_tb, e_ti, e_tn, e_tl, e_tt, e_add, e_addS, e_addL, e_addT, e_sub, e_mul, e_mod, e_fdiv, e_pow, e_neg, e_lt, e_le, e_gt, e_ge, e_eqI, e_lenT, e_lenL, e_lenS, e_lenR, e_tupL, e_tupT, e_intI, e_isiI, e_isiIB, e_isiT, e_isiS, e_isN, e_isI, e_isS, e_isT, e_sqT, e_sqL, e_sqS, wipeE, IL.envOf, List.map_cons, List.map_nil, List.length_cons, List.length_nil, Nat.zero_add, Nat.reduceSub, Nat.reduceAdd, List.replicate, List.cons_append, List.nil_append, List.set_cons_zero, List.set_cons_succ, List.getElem?_cons_zero, List.getElem?_cons_succ, List.getElem?_nil, restE, Option.join, Option.bind_some, Option.bind_none, id_eq, if_true, if_false, Bool.false_eq_true, Bool.not_true, Bool.not_false, Bool.bne_false, Bool.bne_true, reduceIte, Bool.true_bne, Bool.false_bne, and_true, true_and, fnW]
        exact h
def lText (ns : List Nat) : Str := Txt.join " " (ns.map num)
theorem split_lText {ns : List Nat} (h : ns ≠ []) : Txt.split (lText ns) " " = ns.map num := split1 tlB (by decide +kernel) (by simpa using h) fun x hx => by
  obtain ⟨n, _, rfl⟩ := List.mem_map.mp hx
  rw [tl_num']
  exact numL_free (by omega)
theorem sum_le {zs : List Str} {k : Nat} (h : ∀ z ∈ zs, z.length ≤ k) : (zs.map (·.length)).sum ≤ zs.length * k := by
  induction zs with
  | nil => simp
  | cons z zs ih =>
    have h1 := h z (by simp)
    have h2 := ih fun y hy => h y (List.mem_cons_of_mem _ hy)
    simp only [List.map_cons, List.sum_cons, List.length_cons, Nat.succ_mul]
    omega
theorem pJoin_lst {a : Str} {zs : List Str} {k : Nat} (hk : ∀ z ∈ zs, z.length ≤ k) (hl : zs.length ≤ 1000) (hk2 : k ≤ 10000) (ha : a.length ≤ 1) (q : Q (.v (.str (Txt.join a zs)))) : pJoin (.str a) (.lst (zs.map .str)) Q := by
  show match strsOf (zs.map PV.str) with | some zs => (zs.map (·.length)).sum + zs.length * a.length ≤ 16777216 ∧ Q (.v (.str (Txt.join a zs))) | none => False
  rw [strsOf_map]
  refine ⟨?_, q⟩
  have := sum_le hk
  have h1 : zs.length * k ≤ 1000 * 10000 := Nat.mul_le_mul hl hk2
  have h2 : zs.length * a.length ≤ 1000 * 1 := Nat.mul_le_mul hl ha
  omega
theorem pJoin_tup {a : Str} {zs : List Str} {k : Nat} (hk : ∀ z ∈ zs, z.length ≤ k) (hl : zs.length ≤ 1000) (hk2 : k ≤ 10000) (ha : a.length ≤ 1) (q : Q (.v (.str (Txt.join a zs)))) : pJoin (.str a) (.tup (zs.map .str)) Q := by
  show match strsOf (zs.map PV.str) with | some zs => (zs.map (·.length)).sum + zs.length * a.length ≤ 16777216 ∧ Q (.v (.str (Txt.join a zs))) | none => False
  rw [strsOf_map]
  refine ⟨?_, q⟩
  have := sum_le hk
  have h1 : zs.length * k ≤ 1000 * 10000 := Nat.mul_le_mul hl hk2
  have h2 : zs.length * a.length ≤ 1000 * 1 := Nat.mul_le_mul hl ha
  omega
theorem lenB : (" " : Str).length ≤ 1 := by decide +kernel
theorem lenE : ("" : Str).length ≤ 1 := by decide +kernel
theorem i_text_of_numbers {ns : List Nat} (hb : ∀ n ∈ ns, n < 10 ^ 100) (hl : ns.length ≤ 100) (h : Q (.v (.str (lText ns)))) : F_text_of_numbers [.tup (ns.map iPV)] Q := by
  have hL : (ns.map iPV).length ≤ 100 := by simpa using hl
  unfold F_text_of_numbers b_text_of_numbers
  simp only [sSeq, sNext, sRet, sRetN, sRetV, sSet, sIf, sDrop, sTgt, sPar, sNever, wTmps, setAll, sFor, gNm, IL.gTup, gEach, tTrue, tTru, tOf, tNotW, tAndW, tOrW, oAnd, oOr, oNotT, oIf, oChain, oTup, oLst, wArgs, oPrim, withOps, evOps, Opd.ev, oC, oVar, oSl, partEv, oMeth, isStrPV, oComp, oComp2, iSeq, iRange1, iRange2, rgW, oDict0, lift1, lift2, Opr.rd, rdAll, e_rl, Option.map_some, Option.map_none, e_pv, e_po, e_tb, e_ti, e_tn, e_tl, e_tt, e_add, e_addS, e_addL, e_addT, e_sub, e_mul, e_mod, e_fdiv, e_pow, e_neg, e_lt, e_le, e_gt, e_ge, e_eqI, e_lenT, e_lenL, e_lenS, e_lenR, e_tupL, e_tupT, e_intI, e_isiI, e_isiIB, e_isiT, e_isiS, e_isN, e_isI, e_isS, e_isT, e_sqT, e_sqL, e_sqS, wipeE, IL.envOf, List.map_cons, List.map_nil, List.length_cons, List.length_nil, Nat.zero_add, Nat.reduceSub, Nat.reduceAdd, List.replicate, List.cons_append, List.nil_append, List.set_cons_zero, List.set_cons_succ, List.getElem?_cons_zero, List.getElem?_cons_succ, List.getElem?_nil, restE, Option.join, Option.bind_some, Option.bind_none, id_eq, if_true, if_false, Bool.false_eq_true, Bool.not_true, Bool.not_false, Bool.bne_false, Bool.bne_true, reduceIte, Bool.true_bne, Bool.false_bne, and_true, true_and, fnW]
  refine ⟨size_le (by omega), rfl, ?_⟩
  have e : (ns.map num).map PV.str = (ns.map iPV).map shPV := by
    rw [List.map_map, List.map_map]
    apply List.map_congr_left
    intro n hn
    rfl
  refine wComp_map shPV (fun x hx K acc hk => ?_) ?_
  · obtain ⟨n, hn, rfl⟩ := List.mem_map.mp hx
    simp only [sSeq, sNext, sRet, sRetN, sRetV, sSet, sIf, sDrop, sTgt, sPar, sNever, wTmps, setAll, sFor, gNm, IL.gTup, gEach, tTrue, tTru, tOf, tNotW, tAndW, tOrW, oAnd, oOr, oNotT, oIf, oChain, oTup, oLst, wArgs, oPrim, withOps, evOps, Opd.ev, oC, oVar, oSl, partEv, oMeth, isStrPV, oComp, oComp2, iSeq, iRange1, iRange2, rgW, oDict0, lift1, lift2, Opr.rd, rdAll, e_rl, Option.map_some, Option.map_none, e_pv, e_po, e_tb, e_ti, e_tn, e_tl, e_tt, e_add, e_addS, e_addL, e_addT, e_sub, e_mul, e_mod, e_fdiv, e_pow, e_neg, e_lt, e_le, e_gt, e_ge, e_eqI, e_lenT, e_lenL, e_lenS, e_lenR, e_tupL, e_tupT, e_intI, e_isiI, e_isiIB, e_isiT, e_isiS, e_isN, e_isI, e_isS, e_isT, e_sqT, e_sqL, e_sqS, wipeE, IL.envOf, List.map_cons, List.map_nil, List.length_cons, List.length_nil, Nat.zero_add, Nat.reduceSub, Nat.reduceAdd, List.replicate, List.cons_append, List.nil_append, List.set_cons_zero, List.set_cons_succ, List.getElem?_cons_zero, List.getElem?_cons_succ, List.getElem?_nil, restE, Option.join, Option.bind_some, Option.bind_none, id_eq, if_true, if_false, Bool.false_eq_true, Bool.not_true, Bool.not_false, Bool.bne_false, Bool.bne_true, reduceIte, Bool.true_bne, Bool.false_bne, and_true, true_and, fnW, iPV]
    exact pStr_num (hb n hn) hk
  · simp only [sSeq, sNext, sRet, sRetN, sRetV, sSet, sIf, sDrop, sTgt, sPar, sNever, wTmps, setAll, sFor, gNm, IL.gTup, gEach, tTrue, tTru, tOf, tNotW, tAndW, tOrW, oAnd, oOr, oNotT, oIf, oChain, oTup, oLst, wArgs, oPrim, withOps, evOps, Opd.ev, oC, oVar, oSl, partEv, oMeth, isStrPV, oComp, oComp2, iSeq, iRange1, iRange2, rgW, oDict0, lift1, lift2, Opr.rd, rdAll, e_rl, Option.map_some, Option.map_none, e_pv, e_po, e_tb, e_ti, e_tn, e_tl, e_tt, e_add, e_addS, e_addL, e_addT, e_sub, e_mul, e_mod, e_fdiv, e_pow, e_neg, e_lt, e_le, e_gt, e_ge, e_eqI, e_lenT, e_lenL, e_lenS, e_lenR, e_tupL, e_tupT, e_intI, e_isiI, e_isiIB, e_isiT, e_isiS, e_isN, e_isI, e_isS, e_isT, e_sqT, e_sqL, e_sqS, wipeE, IL.envOf, List.map_cons, List.map_nil, List.length_cons, List.length_nil, Nat.zero_add, Nat.reduceSub, Nat.reduceAdd, List.replicate, List.cons_append, List.nil_append, List.set_cons_zero, List.set_cons_succ, List.getElem?_cons_zero, List.getElem?_cons_succ, List.getElem?_nil, restE, Option.join, Option.bind_some, Option.bind_none, id_eq, if_true, if_false, Bool.false_eq_true, Bool.not_true, Bool.not_false, Bool.bne_false, Bool.bne_true, reduceIte, Bool.true_bne, Bool.false_bne, and_true, true_and, fnW]
    rw [← e]
    refine pJoin_lst (k := 100) (fun z hz => ?_) (by simpa using by omega) (by omega) lenB h
    obtain ⟨n, hn, rfl⟩ := List.mem_map.mp hz
    exact numlen (hb n hn)
end ILaw

namespace ILaw
open PySem PySem.Spec PyProof.Rows L2 IL TL
variable {Q : TV → Prop}
theorem joinL_len (S : List Nat) (k : Nat) : ∀ {ps : List (List Nat)}, (∀ p ∈ ps, p.length ≤ k) → (joinL S ps).length ≤ (k + S.length) * ps.length
  | [], _ => Nat.zero_le _
  | [p], h => by
    have := h p (by simp)
    simp [joinL]
    omega
  | p :: q :: r, h => by
    have h1 := h p (by simp)
    have ih := joinL_len S k (ps := q :: r) fun x hx => h x (List.mem_cons_of_mem _ hx)
    show (p ++ (S ++ joinL S (q :: r))).length ≤ _
    rw [List.length_cons, Nat.mul_succ]
    simp only [List.length_append] at ih ⊢
    omega
theorem lText_len {ns : List Nat} (hb : ∀ n ∈ ns, n < 10 ^ 100) (hl : ns.length ≤ 8) : (lText ns).length ≤ 808 := by
  unfold lText
  rw [TL.len_tl, tlJ, tlB]
  have := joinL_len [32] 100 (ps := (ns.map num).map tl) fun p hp => by
    obtain ⟨x, hx, rfl⟩ := List.mem_map.mp hp
    obtain ⟨n, hn, rfl⟩ := List.mem_map.mp hx
    rw [← TL.len_tl]
    exact numlen (hb n hn)
  simp only [List.length_map, List.length_cons, List.length_nil] at this
  omega
theorem pSplit_ok {a b : Str} (hb : (b.length == 0) = false) (ha : a.length ≤ 50000) (hs : (Txt.split a b).length ≤ 50000) (q : Q (.own (.lst ((Txt.split a b).map .str)))) : pSplit (.str a) (.str b) Q :=
  ⟨hb, by have := sizeLine_eq; omega, size_le (by omega), q⟩
theorem lenB0 : ((" " : Str).length == 0) = false := by decide +kernel
theorem lenN0 : (("\n" : Str).length == 0) = false := by decide +kernel
theorem i_list_with_text {ns : List Nat} (hb : ∀ n ∈ ns, n < 10 ^ 100) (h1 : ns ≠ []) (hl : ns.length ≤ 8) (h : Q (.own (.lst [.tup (ns.map iPV)]))) : F_list_with_text [.str (lText ns)] Q := by
  have hs := split_lText h1
  unfold F_list_with_text b_list_with_text
  simp only [sSeq, sNext, sRet, sRetN, sRetV, sSet, sIf, sDrop, sTgt, sPar, sNever, wTmps, setAll, sFor, gNm, IL.gTup, gEach, tTrue, tTru, tOf, tNotW, tAndW, tOrW, oAnd, oOr, oNotT, oIf, oChain, oTup, oLst, wArgs, oPrim, withOps, evOps, Opd.ev, oC, oVar, oSl, partEv, oMeth, isStrPV, oComp, oComp2, iSeq, iRange1, iRange2, rgW, oDict0, lift1, lift2, Opr.rd, rdAll, e_rl, Option.map_some, Option.map_none, e_pv, e_po, e_tb, e_ti, e_tn, e_tl, e_tt, e_add, e_addS, e_addL, e_addT, e_sub, e_mul, e_mod, e_fdiv, e_pow, e_neg, e_lt, e_le, e_gt, e_ge, e_eqI, e_lenT, e_lenL, e_lenS, e_lenR, e_tupL, e_tupT, e_intI, e_isiI, e_isiIB, e_isiT, e_isiS, e_isN, e_isI, e_isS, e_isT, e_sqT, e_sqL, e_sqS, wipeE, IL.envOf, List.map_cons, List.map_nil, List.length_cons, List.length_nil, Nat.zero_add, Nat.reduceSub, Nat.reduceAdd, List.replicate, List.cons_append, List.nil_append, List.set_cons_zero, List.set_cons_succ, List.getElem?_cons_zero, List.getElem?_cons_succ, List.getElem?_nil, restE, Option.join, Option.bind_some, Option.bind_none, id_eq, if_true, if_false, Bool.false_eq_true, Bool.not_true, Bool.not_false, Bool.bne_false, Bool.bne_true, reduceIte, Bool.true_bne, Bool.false_bne, and_true, true_and, fnW, oCall]
  refine pSplit_ok lenB0 (by have := lText_len hb hl; omega) (by rw [hs, List.length_map]; omega) ?_
  rw [hs, List.map_map]
  simp only [sSeq, sNext, sRet, sRetN, sRetV, sSet, sIf, sDrop, sTgt, sPar, sNever, wTmps, setAll, sFor, gNm, IL.gTup, gEach, tTrue, tTru, tOf, tNotW, tAndW, tOrW, oAnd, oOr, oNotT, oIf, oChain, oTup, oLst, wArgs, oPrim, withOps, evOps, Opd.ev, oC, oVar, oSl, partEv, oMeth, isStrPV, oComp, oComp2, iSeq, iRange1, iRange2, rgW, oDict0, lift1, lift2, Opr.rd, rdAll, e_rl, Option.map_some, Option.map_none, e_pv, e_po, e_tb, e_ti, e_tn, e_tl, e_tt, e_add, e_addS, e_addL, e_addT, e_sub, e_mul, e_mod, e_fdiv, e_pow, e_neg, e_lt, e_le, e_gt, e_ge, e_eqI, e_lenT, e_lenL, e_lenS, e_lenR, e_tupL, e_tupT, e_intI, e_isiI, e_isiIB, e_isiT, e_isiS, e_isN, e_isI, e_isS, e_isT, e_sqT, e_sqL, e_sqS, wipeE, IL.envOf, List.map_cons, List.map_nil, List.length_cons, List.length_nil, Nat.zero_add, Nat.reduceSub, Nat.reduceAdd, List.replicate, List.cons_append, List.nil_append, List.set_cons_zero, List.set_cons_succ, List.getElem?_cons_zero, List.getElem?_cons_succ, List.getElem?_nil, restE, Option.join, Option.bind_some, Option.bind_none, id_eq, if_true, if_false, Bool.false_eq_true, Bool.not_true, Bool.not_false, Bool.bne_false, Bool.bne_true, reduceIte, Bool.true_bne, Bool.false_bne, and_true, true_and, fnW]
  refine i_numbers_in (ns := ns) hb (by omega) ?_
  simp only [sSeq, sNext, sRet, sRetN, sRetV, sSet, sIf, sDrop, sTgt, sPar, sNever, wTmps, setAll, sFor, gNm, IL.gTup, gEach, tTrue, tTru, tOf, tNotW, tAndW, tOrW, oAnd, oOr, oNotT, oIf, oChain, oTup, oLst, wArgs, oPrim, withOps, evOps, Opd.ev, oC, oVar, oSl, partEv, oMeth, isStrPV, oComp, oComp2, iSeq, iRange1, iRange2, rgW, oDict0, lift1, lift2, Opr.rd, rdAll, e_rl, Option.map_some, Option.map_none, e_pv, e_po, e_tb, e_ti, e_tn, e_tl, e_tt, e_add, e_addS, e_addL, e_addT, e_sub, e_mul, e_mod, e_fdiv, e_pow, e_neg, e_lt, e_le, e_gt, e_ge, e_eqI, e_lenT, e_lenL, e_lenS, e_lenR, e_tupL, e_tupT, e_intI, e_isiI, e_isiIB, e_isiT, e_isiS, e_isN, e_isI, e_isS, e_isT, e_sqT, e_sqL, e_sqS, wipeE, IL.envOf, List.map_cons, List.map_nil, List.length_cons, List.length_nil, Nat.zero_add, Nat.reduceSub, Nat.reduceAdd, List.replicate, List.cons_append, List.nil_append, List.set_cons_zero, List.set_cons_succ, List.getElem?_cons_zero, List.getElem?_cons_succ, List.getElem?_nil, restE, Option.join, Option.bind_some, Option.bind_none, id_eq, if_true, if_false, Bool.false_eq_true, Bool.not_true, Bool.not_false, Bool.bne_false, Bool.bne_true, reduceIte, Bool.true_bne, Bool.false_bne, and_true, true_and, fnW]
  refine ⟨size_le (by omega), rfl, ?_⟩
  simp only [sSeq, sNext, sRet, sRetN, sRetV, sSet, sIf, sDrop, sTgt, sPar, sNever, wTmps, setAll, sFor, gNm, IL.gTup, gEach, tTrue, tTru, tOf, tNotW, tAndW, tOrW, oAnd, oOr, oNotT, oIf, oChain, oTup, oLst, wArgs, oPrim, withOps, evOps, Opd.ev, oC, oVar, oSl, partEv, oMeth, isStrPV, oComp, oComp2, iSeq, iRange1, iRange2, rgW, oDict0, lift1, lift2, Opr.rd, rdAll, e_rl, Option.map_some, Option.map_none, e_pv, e_po, e_tb, e_ti, e_tn, e_tl, e_tt, e_add, e_addS, e_addL, e_addT, e_sub, e_mul, e_mod, e_fdiv, e_pow, e_neg, e_lt, e_le, e_gt, e_ge, e_eqI, e_lenT, e_lenL, e_lenS, e_lenR, e_tupL, e_tupT, e_intI, e_isiI, e_isiIB, e_isiT, e_isiS, e_isN, e_isI, e_isS, e_isT, e_sqT, e_sqL, e_sqS, wipeE, IL.envOf, List.map_cons, List.map_nil, List.length_cons, List.length_nil, Nat.zero_add, Nat.reduceSub, Nat.reduceAdd, List.replicate, List.cons_append, List.nil_append, List.set_cons_zero, List.set_cons_succ, List.getElem?_cons_zero, List.getElem?_cons_succ, List.getElem?_nil, restE, Option.join, Option.bind_some, Option.bind_none, id_eq, if_true, if_false, Bool.false_eq_true, Bool.not_true, Bool.not_false, Bool.bne_false, Bool.bne_true, reduceIte, Bool.true_bne, Bool.false_bne, and_true, true_and, fnW, wComp, List.length_map]
  have e : decide ((ns.length : Int) ≤ 8) = true := decide_eq_true (by omega)
  rw [if_pos e]
  exact h
theorem okBeat : PyData.strOk ("beat" : Str) = true := by decide +kernel
theorem okPl : PyData.strOk ("players" : Str) = true := by decide +kernel
def nlPV : PV → PV
  | .str z => .str (z ++ "\n")
  | _ => .non
def lnPV : PV → PV
  | .tup [.int a, .int b] => .str (lineS (a.toNat, b.toNat))
  | _ => .non
theorem ln_p (p : Nat × Nat) : lnPV (pPV p) = .str (lineS p) := rfl
theorem pJoin_words {zs : List Str} (hk : ∀ z ∈ zs, z.length ≤ 100) (hl : zs.length ≤ 1000) (q : Q (.v (.str (Txt.join " " zs)))) : pJoin (.str " ") (.tup (zs.map .str)) Q := pJoin_tup hk hl (by omega) lenB q
theorem lenPl : ("players" : Str).length ≤ 100 := by decide +kernel
theorem lenBe : ("beat" : Str).length ≤ 100 := by decide +kernel
theorem small_b {n : Nat} (h : n < 100) : n < 10 ^ 100 := Nat.lt_trans h (by decide +kernel)
theorem head_len {m : Nat} (h : m < 100) : (headS m).length ≤ 200 := by
  have := joinL_len [32] 90 (ps := [("players" : Str), num m].map tl) fun p hp => by
    simp only [List.map_cons, List.map_nil, List.mem_cons, List.not_mem_nil, or_false] at hp
    rcases hp with rfl | rfl
    · rw [tlP]; decide
    · rw [tl_num']; have : (numL m).length ≤ 2 := numL_len (by decide) h; omega
  unfold headS
  rw [TL.len_tl, tlJ, tlB]
  exact Nat.le_trans this (show (90 + 1) * 2 ≤ 200 by decide)
theorem line_len {p : Nat × Nat} (h1 : p.1 < 100) (h2 : p.2 < 100) : (lineS p).length ≤ 200 := by
  have a : (numL p.1).length ≤ 2 := numL_len (by decide) h1
  have b : (numL p.2).length ≤ 2 := numL_len (by decide) h2
  rw [TL.len_tl, tl_line]
  simp
  omega
theorem i_text_of_games {m : Nat} {ws : List (Nat × Nat)} (g : Good m ws) (h : Q (.v (.str (gText m ws)))) : F_text_of_games [gPV m ws] Q := by
  have hL : (ws.map pPV).length ≤ 64 := by simpa using g.len
  have m8 := g.m8
  unfold F_text_of_games b_text_of_games
  simp only [sSeq, sNext, sRet, sRetN, sRetV, sSet, sIf, sDrop, sTgt, sPar, sNever, wTmps, setAll, sFor, gNm, IL.gTup, gEach, tTrue, tTru, tOf, tNotW, tAndW, tOrW, oAnd, oOr, oNotT, oIf, oChain, oTup, oLst, wArgs, oPrim, withOps, evOps, Opd.ev, oC, oVar, oSl, partEv, oMeth, isStrPV, oComp, oComp2, iSeq, iRange1, iRange2, rgW, oDict0, lift1, lift2, Opr.rd, rdAll, e_rl, Option.map_some, Option.map_none, e_pv, e_po, e_tb, e_ti, e_tn, e_tl, e_tt, e_add, e_addS, e_addL, e_addT, e_sub, e_mul, e_mod, e_fdiv, e_pow, e_neg, e_lt, e_le, e_gt, e_ge, e_eqI, e_lenT, e_lenL, e_lenS, e_lenR, e_tupL, e_tupT, e_intI, e_isiI, e_isiIB, e_isiT, e_isiS, e_isN, e_isI, e_isS, e_isT, e_sqT, e_sqL, e_sqS, wipeE, IL.envOf, List.map_cons, List.map_nil, List.length_cons, List.length_nil, Nat.zero_add, Nat.reduceSub, Nat.reduceAdd, List.replicate, List.cons_append, List.nil_append, List.set_cons_zero, List.set_cons_succ, List.getElem?_cons_zero, List.getElem?_cons_succ, List.getElem?_nil, restE, Option.join, Option.bind_some, Option.bind_none, id_eq, if_true, if_false, Bool.false_eq_true, Bool.not_true, Bool.not_false, Bool.bne_false, Bool.bne_true, reduceIte, Bool.true_bne, Bool.false_bne, and_true, true_and, fnW]
  refine pIx_tup (y := .int m) rfl ?_
  simp only [sSeq, sNext, sRet, sRetN, sRetV, sSet, sIf, sDrop, sTgt, sPar, sNever, wTmps, setAll, sFor, gNm, IL.gTup, gEach, tTrue, tTru, tOf, tNotW, tAndW, tOrW, oAnd, oOr, oNotT, oIf, oChain, oTup, oLst, wArgs, oPrim, withOps, evOps, Opd.ev, oC, oVar, oSl, partEv, oMeth, isStrPV, oComp, oComp2, iSeq, iRange1, iRange2, rgW, oDict0, lift1, lift2, Opr.rd, rdAll, e_rl, Option.map_some, Option.map_none, e_pv, e_po, e_tb, e_ti, e_tn, e_tl, e_tt, e_add, e_addS, e_addL, e_addT, e_sub, e_mul, e_mod, e_fdiv, e_pow, e_neg, e_lt, e_le, e_gt, e_ge, e_eqI, e_lenT, e_lenL, e_lenS, e_lenR, e_tupL, e_tupT, e_intI, e_isiI, e_isiIB, e_isiT, e_isiS, e_isN, e_isI, e_isS, e_isT, e_sqT, e_sqL, e_sqS, wipeE, IL.envOf, List.map_cons, List.map_nil, List.length_cons, List.length_nil, Nat.zero_add, Nat.reduceSub, Nat.reduceAdd, List.replicate, List.cons_append, List.nil_append, List.set_cons_zero, List.set_cons_succ, List.getElem?_cons_zero, List.getElem?_cons_succ, List.getElem?_nil, restE, Option.join, Option.bind_some, Option.bind_none, id_eq, if_true, if_false, Bool.false_eq_true, Bool.not_true, Bool.not_false, Bool.bne_false, Bool.bne_true, reduceIte, Bool.true_bne, Bool.false_bne, and_true, true_and, fnW]
  refine pStr_num (small_b (by omega)) ?_
  simp only [sSeq, sNext, sRet, sRetN, sRetV, sSet, sIf, sDrop, sTgt, sPar, sNever, wTmps, setAll, sFor, gNm, IL.gTup, gEach, tTrue, tTru, tOf, tNotW, tAndW, tOrW, oAnd, oOr, oNotT, oIf, oChain, oTup, oLst, wArgs, oPrim, withOps, evOps, Opd.ev, oC, oVar, oSl, partEv, oMeth, isStrPV, oComp, oComp2, iSeq, iRange1, iRange2, rgW, oDict0, lift1, lift2, Opr.rd, rdAll, e_rl, Option.map_some, Option.map_none, e_pv, e_po, e_tb, e_ti, e_tn, e_tl, e_tt, e_add, e_addS, e_addL, e_addT, e_sub, e_mul, e_mod, e_fdiv, e_pow, e_neg, e_lt, e_le, e_gt, e_ge, e_eqI, e_lenT, e_lenL, e_lenS, e_lenR, e_tupL, e_tupT, e_intI, e_isiI, e_isiIB, e_isiT, e_isiS, e_isN, e_isI, e_isS, e_isT, e_sqT, e_sqL, e_sqS, wipeE, IL.envOf, List.map_cons, List.map_nil, List.length_cons, List.length_nil, Nat.zero_add, Nat.reduceSub, Nat.reduceAdd, List.replicate, List.cons_append, List.nil_append, List.set_cons_zero, List.set_cons_succ, List.getElem?_cons_zero, List.getElem?_cons_succ, List.getElem?_nil, restE, Option.join, Option.bind_some, Option.bind_none, id_eq, if_true, if_false, Bool.false_eq_true, Bool.not_true, Bool.not_false, Bool.bne_false, Bool.bne_true, reduceIte, Bool.true_bne, Bool.false_bne, and_true, true_and, fnW]
  refine pJoin_words (zs := [("players" : Str), num m]) (fun z hz => ?_) (by simp) ?_
  · simp only [List.mem_cons, List.not_mem_nil, or_false] at hz
    rcases hz with rfl | rfl
    · exact lenPl
    · exact numlen (small_b (by omega))
  simp only [sSeq, sNext, sRet, sRetN, sRetV, sSet, sIf, sDrop, sTgt, sPar, sNever, wTmps, setAll, sFor, gNm, IL.gTup, gEach, tTrue, tTru, tOf, tNotW, tAndW, tOrW, oAnd, oOr, oNotT, oIf, oChain, oTup, oLst, wArgs, oPrim, withOps, evOps, Opd.ev, oC, oVar, oSl, partEv, oMeth, isStrPV, oComp, oComp2, iSeq, iRange1, iRange2, rgW, oDict0, lift1, lift2, Opr.rd, rdAll, e_rl, Option.map_some, Option.map_none, e_pv, e_po, e_tb, e_ti, e_tn, e_tl, e_tt, e_add, e_addS, e_addL, e_addT, e_sub, e_mul, e_mod, e_fdiv, e_pow, e_neg, e_lt, e_le, e_gt, e_ge, e_eqI, e_lenT, e_lenL, e_lenS, e_lenR, e_tupL, e_tupT, e_intI, e_isiI, e_isiIB, e_isiT, e_isiS, e_isN, e_isI, e_isS, e_isT, e_sqT, e_sqL, e_sqS, wipeE, IL.envOf, List.map_cons, List.map_nil, List.length_cons, List.length_nil, Nat.zero_add, Nat.reduceSub, Nat.reduceAdd, List.replicate, List.cons_append, List.nil_append, List.set_cons_zero, List.set_cons_succ, List.getElem?_cons_zero, List.getElem?_cons_succ, List.getElem?_nil, restE, Option.join, Option.bind_some, Option.bind_none, id_eq, if_true, if_false, Bool.false_eq_true, Bool.not_true, Bool.not_false, Bool.bne_false, Bool.bne_true, reduceIte, Bool.true_bne, Bool.false_bne, and_true, true_and, fnW, oExt, ownL]
  refine pIx_tup (y := .tup (ws.map pPV)) rfl ?_
  simp only [sSeq, sNext, sRet, sRetN, sRetV, sSet, sIf, sDrop, sTgt, sPar, sNever, wTmps, setAll, sFor, gNm, IL.gTup, gEach, tTrue, tTru, tOf, tNotW, tAndW, tOrW, oAnd, oOr, oNotT, oIf, oChain, oTup, oLst, wArgs, oPrim, withOps, evOps, Opd.ev, oC, oVar, oSl, partEv, oMeth, isStrPV, oComp, oComp2, iSeq, iRange1, iRange2, rgW, oDict0, lift1, lift2, Opr.rd, rdAll, e_rl, Option.map_some, Option.map_none, e_pv, e_po, e_tb, e_ti, e_tn, e_tl, e_tt, e_add, e_addS, e_addL, e_addT, e_sub, e_mul, e_mod, e_fdiv, e_pow, e_neg, e_lt, e_le, e_gt, e_ge, e_eqI, e_lenT, e_lenL, e_lenS, e_lenR, e_tupL, e_tupT, e_intI, e_isiI, e_isiIB, e_isiT, e_isiS, e_isN, e_isI, e_isS, e_isT, e_sqT, e_sqL, e_sqS, wipeE, IL.envOf, List.map_cons, List.map_nil, List.length_cons, List.length_nil, Nat.zero_add, Nat.reduceSub, Nat.reduceAdd, List.replicate, List.cons_append, List.nil_append, List.set_cons_zero, List.set_cons_succ, List.getElem?_cons_zero, List.getElem?_cons_succ, List.getElem?_nil, restE, Option.join, Option.bind_some, Option.bind_none, id_eq, if_true, if_false, Bool.false_eq_true, Bool.not_true, Bool.not_false, Bool.bne_false, Bool.bne_true, reduceIte, Bool.true_bne, Bool.false_bne, and_true, true_and, fnW]
  refine ⟨size_le (by omega), rfl, ?_⟩
  refine wComp_map lnPV (fun x hx K acc hk => ?_) ?_
  · obtain ⟨p, hp, rfl⟩ := List.mem_map.mp hx
    have r := g.rng p hp
    simp only [sSeq, sNext, sRet, sRetN, sRetV, sSet, sIf, sDrop, sTgt, sPar, sNever, wTmps, setAll, sFor, gNm, IL.gTup, gEach, tTrue, tTru, tOf, tNotW, tAndW, tOrW, oAnd, oOr, oNotT, oIf, oChain, oTup, oLst, wArgs, oPrim, withOps, evOps, Opd.ev, oC, oVar, oSl, partEv, oMeth, isStrPV, oComp, oComp2, iSeq, iRange1, iRange2, rgW, oDict0, lift1, lift2, Opr.rd, rdAll, e_rl, Option.map_some, Option.map_none, e_pv, e_po, e_tb, e_ti, e_tn, e_tl, e_tt, e_add, e_addS, e_addL, e_addT, e_sub, e_mul, e_mod, e_fdiv, e_pow, e_neg, e_lt, e_le, e_gt, e_ge, e_eqI, e_lenT, e_lenL, e_lenS, e_lenR, e_tupL, e_tupT, e_intI, e_isiI, e_isiIB, e_isiT, e_isiS, e_isN, e_isI, e_isS, e_isT, e_sqT, e_sqL, e_sqS, wipeE, IL.envOf, List.map_cons, List.map_nil, List.length_cons, List.length_nil, Nat.zero_add, Nat.reduceSub, Nat.reduceAdd, List.replicate, List.cons_append, List.nil_append, List.set_cons_zero, List.set_cons_succ, List.getElem?_cons_zero, List.getElem?_cons_succ, List.getElem?_nil, restE, Option.join, Option.bind_some, Option.bind_none, id_eq, if_true, if_false, Bool.false_eq_true, Bool.not_true, Bool.not_false, Bool.bne_false, Bool.bne_true, reduceIte, Bool.true_bne, Bool.false_bne, and_true, true_and, fnW, pPV]
    refine pStr_num (small_b (by omega)) ?_
    simp only [sSeq, sNext, sRet, sRetN, sRetV, sSet, sIf, sDrop, sTgt, sPar, sNever, wTmps, setAll, sFor, gNm, IL.gTup, gEach, tTrue, tTru, tOf, tNotW, tAndW, tOrW, oAnd, oOr, oNotT, oIf, oChain, oTup, oLst, wArgs, oPrim, withOps, evOps, Opd.ev, oC, oVar, oSl, partEv, oMeth, isStrPV, oComp, oComp2, iSeq, iRange1, iRange2, rgW, oDict0, lift1, lift2, Opr.rd, rdAll, e_rl, Option.map_some, Option.map_none, e_pv, e_po, e_tb, e_ti, e_tn, e_tl, e_tt, e_add, e_addS, e_addL, e_addT, e_sub, e_mul, e_mod, e_fdiv, e_pow, e_neg, e_lt, e_le, e_gt, e_ge, e_eqI, e_lenT, e_lenL, e_lenS, e_lenR, e_tupL, e_tupT, e_intI, e_isiI, e_isiIB, e_isiT, e_isiS, e_isN, e_isI, e_isS, e_isT, e_sqT, e_sqL, e_sqS, wipeE, IL.envOf, List.map_cons, List.map_nil, List.length_cons, List.length_nil, Nat.zero_add, Nat.reduceSub, Nat.reduceAdd, List.replicate, List.cons_append, List.nil_append, List.set_cons_zero, List.set_cons_succ, List.getElem?_cons_zero, List.getElem?_cons_succ, List.getElem?_nil, restE, Option.join, Option.bind_some, Option.bind_none, id_eq, if_true, if_false, Bool.false_eq_true, Bool.not_true, Bool.not_false, Bool.bne_false, Bool.bne_true, reduceIte, Bool.true_bne, Bool.false_bne, and_true, true_and, fnW]
    refine pStr_num (small_b (by omega)) ?_
    simp only [sSeq, sNext, sRet, sRetN, sRetV, sSet, sIf, sDrop, sTgt, sPar, sNever, wTmps, setAll, sFor, gNm, IL.gTup, gEach, tTrue, tTru, tOf, tNotW, tAndW, tOrW, oAnd, oOr, oNotT, oIf, oChain, oTup, oLst, wArgs, oPrim, withOps, evOps, Opd.ev, oC, oVar, oSl, partEv, oMeth, isStrPV, oComp, oComp2, iSeq, iRange1, iRange2, rgW, oDict0, lift1, lift2, Opr.rd, rdAll, e_rl, Option.map_some, Option.map_none, e_pv, e_po, e_tb, e_ti, e_tn, e_tl, e_tt, e_add, e_addS, e_addL, e_addT, e_sub, e_mul, e_mod, e_fdiv, e_pow, e_neg, e_lt, e_le, e_gt, e_ge, e_eqI, e_lenT, e_lenL, e_lenS, e_lenR, e_tupL, e_tupT, e_intI, e_isiI, e_isiIB, e_isiT, e_isiS, e_isN, e_isI, e_isS, e_isT, e_sqT, e_sqL, e_sqS, wipeE, IL.envOf, List.map_cons, List.map_nil, List.length_cons, List.length_nil, Nat.zero_add, Nat.reduceSub, Nat.reduceAdd, List.replicate, List.cons_append, List.nil_append, List.set_cons_zero, List.set_cons_succ, List.getElem?_cons_zero, List.getElem?_cons_succ, List.getElem?_nil, restE, Option.join, Option.bind_some, Option.bind_none, id_eq, if_true, if_false, Bool.false_eq_true, Bool.not_true, Bool.not_false, Bool.bne_false, Bool.bne_true, reduceIte, Bool.true_bne, Bool.false_bne, and_true, true_and, fnW]
    refine pJoin_words (zs := [num p.1, "beat", num p.2]) (fun z hz => ?_) (by simp) ?_
    · simp only [List.mem_cons, List.not_mem_nil, or_false] at hz
      rcases hz with rfl | rfl | rfl
      · exact numlen (small_b (by omega))
      · exact lenBe
      · exact numlen (small_b (by omega))
    exact hk
  · have e : (ws.map pPV).map lnPV = (ws.map lineS).map PV.str := by
      rw [List.map_map, List.map_map]
      rfl
    rw [e]
    simp only [sSeq, sNext, sRet, sRetN, sRetV, sSet, sIf, sDrop, sTgt, sPar, sNever, wTmps, setAll, sFor, gNm, IL.gTup, gEach, tTrue, tTru, tOf, tNotW, tAndW, tOrW, oAnd, oOr, oNotT, oIf, oChain, oTup, oLst, wArgs, oPrim, withOps, evOps, Opd.ev, oC, oVar, oSl, partEv, oMeth, isStrPV, oComp, oComp2, iSeq, iRange1, iRange2, rgW, oDict0, lift1, lift2, Opr.rd, rdAll, e_rl, Option.map_some, Option.map_none, e_pv, e_po, e_tb, e_ti, e_tn, e_tl, e_tt, e_add, e_addS, e_addL, e_addT, e_sub, e_mul, e_mod, e_fdiv, e_pow, e_neg, e_lt, e_le, e_gt, e_ge, e_eqI, e_lenT, e_lenL, e_lenS, e_lenR, e_tupL, e_tupT, e_intI, e_isiI, e_isiIB, e_isiT, e_isiS, e_isN, e_isI, e_isS, e_isT, e_sqT, e_sqL, e_sqS, wipeE, IL.envOf, List.map_cons, List.map_nil, List.length_cons, List.length_nil, Nat.zero_add, Nat.reduceSub, Nat.reduceAdd, List.replicate, List.cons_append, List.nil_append, List.set_cons_zero, List.set_cons_succ, List.getElem?_cons_zero, List.getElem?_cons_succ, List.getElem?_nil, restE, Option.join, Option.bind_some, Option.bind_none, id_eq, if_true, if_false, Bool.false_eq_true, Bool.not_true, Bool.not_false, Bool.bne_false, Bool.bne_true, reduceIte, Bool.true_bne, Bool.false_bne, and_true, true_and, fnW, ownL]
    have hlw : (List.map PV.str (List.map lineS ws)).length ≤ 64 := by simpa using g.len
    refine ⟨size_le (by omega), size_le (by omega), rfl, ?_⟩
    have e2 : (((linesS m ws).map (· ++ ("\n" : Str))).map PV.str) = (PV.str (headS m) :: List.map PV.str (List.map lineS ws)).map nlPV := by
      show _ = ((linesS m ws).map PV.str).map nlPV
      rw [List.map_map, List.map_map]
      rfl
    have lenN : ("\n" : Str).length = 1 := by decide +kernel
    have hL : ∀ z ∈ linesS m ws, z.length ≤ 200 := fun z hz => by
      rcases List.mem_cons.mp hz with rfl | hz
      · exact head_len (by omega)
      · obtain ⟨p, hp, rfl⟩ := List.mem_map.mp hz
        have r := g.rng p hp
        exact line_len (by omega) (by omega)
    refine wComp_map nlPV (fun x hx K acc hk => ?_) ?_
    · have hx : x ∈ (linesS m ws).map PV.str := hx
      obtain ⟨z, hz, rfl⟩ := List.mem_map.mp hx
      have := hL z hz
      simp only [sSeq, sNext, sRet, sRetN, sRetV, sSet, sIf, sDrop, sTgt, sPar, sNever, wTmps, setAll, sFor, gNm, IL.gTup, gEach, tTrue, tTru, tOf, tNotW, tAndW, tOrW, oAnd, oOr, oNotT, oIf, oChain, oTup, oLst, wArgs, oPrim, withOps, evOps, Opd.ev, oC, oVar, oSl, partEv, oMeth, isStrPV, oComp, oComp2, iSeq, iRange1, iRange2, rgW, oDict0, lift1, lift2, Opr.rd, rdAll, e_rl, Option.map_some, Option.map_none, e_pv, e_po, e_tb, e_ti, e_tn, e_tl, e_tt, e_add, e_addS, e_addL, e_addT, e_sub, e_mul, e_mod, e_fdiv, e_pow, e_neg, e_lt, e_le, e_gt, e_ge, e_eqI, e_lenT, e_lenL, e_lenS, e_lenR, e_tupL, e_tupT, e_intI, e_isiI, e_isiIB, e_isiT, e_isiS, e_isN, e_isI, e_isS, e_isT, e_sqT, e_sqL, e_sqS, wipeE, IL.envOf, List.map_cons, List.map_nil, List.length_cons, List.length_nil, Nat.zero_add, Nat.reduceSub, Nat.reduceAdd, List.replicate, List.cons_append, List.nil_append, List.set_cons_zero, List.set_cons_succ, List.getElem?_cons_zero, List.getElem?_cons_succ, List.getElem?_nil, restE, Option.join, Option.bind_some, Option.bind_none, id_eq, if_true, if_false, Bool.false_eq_true, Bool.not_true, Bool.not_false, Bool.bne_false, Bool.bne_true, reduceIte, Bool.true_bne, Bool.false_bne, and_true, true_and, fnW]
      exact ⟨size_le (by rw [lenN]; omega), hk⟩
    · have hQ : ∀ l, l = ((linesS m ws).map (· ++ ("\n" : Str))).map PV.str → pJoin (.str "") (.lst l) fun tv => Q tv := fun l hl => by
        subst hl
        refine pJoin_lst (k := 201) (fun z hz => ?_) (by have := g.len; simp [linesS]; omega) (by omega) lenE h
        obtain ⟨y, hy, rfl⟩ := List.mem_map.mp hz
        have := hL y hy
        rw [Str.length_append, lenN]
        omega
      exact hQ _ e2.symm
theorem i_win_in {p : Nat × Nat} (h1 : p.1 < 100) (h2 : p.2 < 100) (h : Q (.own (.lst [pPV p]))) : F_win_in [.str (lineS p)] Q := by
  have hs := split_line p
  have hb : ∀ n ∈ [p.1, p.2], n < 10 ^ 100 := by
    intro n hn
    simp only [List.mem_cons, List.not_mem_nil, or_false] at hn
    rcases hn with rfl | rfl
    · exact small_b h1
    · exact small_b h2
  unfold F_win_in b_win_in
  simp only [sSeq, sNext, sRet, sRetN, sRetV, sSet, sIf, sDrop, sTgt, sPar, sNever, wTmps, setAll, sFor, gNm, IL.gTup, gEach, tTrue, tTru, tOf, tNotW, tAndW, tOrW, oAnd, oOr, oNotT, oIf, oChain, oTup, oLst, wArgs, oPrim, withOps, evOps, Opd.ev, oC, oVar, oSl, partEv, oMeth, isStrPV, oComp, oComp2, iSeq, iRange1, iRange2, rgW, oDict0, lift1, lift2, Opr.rd, rdAll, e_rl, Option.map_some, Option.map_none, e_pv, e_po, e_tb, e_ti, e_tn, e_tl, e_tt, e_add, e_addS, e_addL, e_addT, e_sub, e_mul, e_mod, e_fdiv, e_pow, e_neg, e_lt, e_le, e_gt, e_ge, e_eqI, e_lenT, e_lenL, e_lenS, e_lenR, e_tupL, e_tupT, e_intI, e_isiI, e_isiIB, e_isiT, e_isiS, e_isN, e_isI, e_isS, e_isT, e_sqT, e_sqL, e_sqS, wipeE, IL.envOf, List.map_cons, List.map_nil, List.length_cons, List.length_nil, Nat.zero_add, Nat.reduceSub, Nat.reduceAdd, List.replicate, List.cons_append, List.nil_append, List.set_cons_zero, List.set_cons_succ, List.getElem?_cons_zero, List.getElem?_cons_succ, List.getElem?_nil, restE, Option.join, Option.bind_some, Option.bind_none, id_eq, if_true, if_false, Bool.false_eq_true, Bool.not_true, Bool.not_false, Bool.bne_false, Bool.bne_true, reduceIte, Bool.true_bne, Bool.false_bne, and_true, true_and, fnW, oCall]
  refine pSplit_ok lenB0 (by have := line_len h1 h2; omega) (by rw [hs]; simp) ?_
  rw [hs]
  simp only [sSeq, sNext, sRet, sRetN, sRetV, sSet, sIf, sDrop, sTgt, sPar, sNever, wTmps, setAll, sFor, gNm, IL.gTup, gEach, tTrue, tTru, tOf, tNotW, tAndW, tOrW, oAnd, oOr, oNotT, oIf, oChain, oTup, oLst, wArgs, oPrim, withOps, evOps, Opd.ev, oC, oVar, oSl, partEv, oMeth, isStrPV, oComp, oComp2, iSeq, iRange1, iRange2, rgW, oDict0, lift1, lift2, Opr.rd, rdAll, e_rl, Option.map_some, Option.map_none, e_pv, e_po, e_tb, e_ti, e_tn, e_tl, e_tt, e_add, e_addS, e_addL, e_addT, e_sub, e_mul, e_mod, e_fdiv, e_pow, e_neg, e_lt, e_le, e_gt, e_ge, e_eqI, e_lenT, e_lenL, e_lenS, e_lenR, e_tupL, e_tupT, e_intI, e_isiI, e_isiIB, e_isiT, e_isiS, e_isN, e_isI, e_isS, e_isT, e_sqT, e_sqL, e_sqS, wipeE, IL.envOf, List.map_cons, List.map_nil, List.length_cons, List.length_nil, Nat.zero_add, Nat.reduceSub, Nat.reduceAdd, List.replicate, List.cons_append, List.nil_append, List.set_cons_zero, List.set_cons_succ, List.getElem?_cons_zero, List.getElem?_cons_succ, List.getElem?_nil, restE, Option.join, Option.bind_some, Option.bind_none, id_eq, if_true, if_false, Bool.false_eq_true, Bool.not_true, Bool.not_false, Bool.bne_false, Bool.bne_true, reduceIte, Bool.true_bne, Bool.false_bne, and_true, true_and, fnW]
  rw [if_pos (by decide)]
  refine pIx_lst (y := .str "beat") rfl ?_
  refine pEq_str okBeat okBeat ?_
  rw [beq_self_eq_true]
  simp only [sSeq, sNext, sRet, sRetN, sRetV, sSet, sIf, sDrop, sTgt, sPar, sNever, wTmps, setAll, sFor, gNm, IL.gTup, gEach, tTrue, tTru, tOf, tNotW, tAndW, tOrW, oAnd, oOr, oNotT, oIf, oChain, oTup, oLst, wArgs, oPrim, withOps, evOps, Opd.ev, oC, oVar, oSl, partEv, oMeth, isStrPV, oComp, oComp2, iSeq, iRange1, iRange2, rgW, oDict0, lift1, lift2, Opr.rd, rdAll, e_rl, Option.map_some, Option.map_none, e_pv, e_po, e_tb, e_ti, e_tn, e_tl, e_tt, e_add, e_addS, e_addL, e_addT, e_sub, e_mul, e_mod, e_fdiv, e_pow, e_neg, e_lt, e_le, e_gt, e_ge, e_eqI, e_lenT, e_lenL, e_lenS, e_lenR, e_tupL, e_tupT, e_intI, e_isiI, e_isiIB, e_isiT, e_isiS, e_isN, e_isI, e_isS, e_isT, e_sqT, e_sqL, e_sqS, wipeE, IL.envOf, List.map_cons, List.map_nil, List.length_cons, List.length_nil, Nat.zero_add, Nat.reduceSub, Nat.reduceAdd, List.replicate, List.cons_append, List.nil_append, List.set_cons_zero, List.set_cons_succ, List.getElem?_cons_zero, List.getElem?_cons_succ, List.getElem?_nil, restE, Option.join, Option.bind_some, Option.bind_none, id_eq, if_true, if_false, Bool.false_eq_true, Bool.not_true, Bool.not_false, Bool.bne_false, Bool.bne_true, reduceIte, Bool.true_bne, Bool.false_bne, and_true, true_and, fnW]
  refine pIx_lst (y := .str (num p.1)) rfl ?_
  refine pIx_lst (y := .str (num p.2)) rfl ?_
  exact i_numbers_in (ns := [p.1, p.2]) hb (by simp) h
theorem i_many_in {m : Nat} (hm : m < 100) (h : Q (.own (.lst [iPV m]))) : F_many_in [.str (headS m)] Q := by
  have hs := split_head m
  unfold F_many_in b_many_in
  simp only [sSeq, sNext, sRet, sRetN, sRetV, sSet, sIf, sDrop, sTgt, sPar, sNever, wTmps, setAll, sFor, gNm, IL.gTup, gEach, tTrue, tTru, tOf, tNotW, tAndW, tOrW, oAnd, oOr, oNotT, oIf, oChain, oTup, oLst, wArgs, oPrim, withOps, evOps, Opd.ev, oC, oVar, oSl, partEv, oMeth, isStrPV, oComp, oComp2, iSeq, iRange1, iRange2, rgW, oDict0, lift1, lift2, Opr.rd, rdAll, e_rl, Option.map_some, Option.map_none, e_pv, e_po, e_tb, e_ti, e_tn, e_tl, e_tt, e_add, e_addS, e_addL, e_addT, e_sub, e_mul, e_mod, e_fdiv, e_pow, e_neg, e_lt, e_le, e_gt, e_ge, e_eqI, e_lenT, e_lenL, e_lenS, e_lenR, e_tupL, e_tupT, e_intI, e_isiI, e_isiIB, e_isiT, e_isiS, e_isN, e_isI, e_isS, e_isT, e_sqT, e_sqL, e_sqS, wipeE, IL.envOf, List.map_cons, List.map_nil, List.length_cons, List.length_nil, Nat.zero_add, Nat.reduceSub, Nat.reduceAdd, List.replicate, List.cons_append, List.nil_append, List.set_cons_zero, List.set_cons_succ, List.getElem?_cons_zero, List.getElem?_cons_succ, List.getElem?_nil, restE, Option.join, Option.bind_some, Option.bind_none, id_eq, if_true, if_false, Bool.false_eq_true, Bool.not_true, Bool.not_false, Bool.bne_false, Bool.bne_true, reduceIte, Bool.true_bne, Bool.false_bne, and_true, true_and, fnW, oCall]
  refine pSplit_ok lenB0 (by have := head_len hm; omega) (by rw [hs]; simp) ?_
  rw [hs]
  simp only [sSeq, sNext, sRet, sRetN, sRetV, sSet, sIf, sDrop, sTgt, sPar, sNever, wTmps, setAll, sFor, gNm, IL.gTup, gEach, tTrue, tTru, tOf, tNotW, tAndW, tOrW, oAnd, oOr, oNotT, oIf, oChain, oTup, oLst, wArgs, oPrim, withOps, evOps, Opd.ev, oC, oVar, oSl, partEv, oMeth, isStrPV, oComp, oComp2, iSeq, iRange1, iRange2, rgW, oDict0, lift1, lift2, Opr.rd, rdAll, e_rl, Option.map_some, Option.map_none, e_pv, e_po, e_tb, e_ti, e_tn, e_tl, e_tt, e_add, e_addS, e_addL, e_addT, e_sub, e_mul, e_mod, e_fdiv, e_pow, e_neg, e_lt, e_le, e_gt, e_ge, e_eqI, e_lenT, e_lenL, e_lenS, e_lenR, e_tupL, e_tupT, e_intI, e_isiI, e_isiIB, e_isiT, e_isiS, e_isN, e_isI, e_isS, e_isT, e_sqT, e_sqL, e_sqS, wipeE, IL.envOf, List.map_cons, List.map_nil, List.length_cons, List.length_nil, Nat.zero_add, Nat.reduceSub, Nat.reduceAdd, List.replicate, List.cons_append, List.nil_append, List.set_cons_zero, List.set_cons_succ, List.getElem?_cons_zero, List.getElem?_cons_succ, List.getElem?_nil, restE, Option.join, Option.bind_some, Option.bind_none, id_eq, if_true, if_false, Bool.false_eq_true, Bool.not_true, Bool.not_false, Bool.bne_false, Bool.bne_true, reduceIte, Bool.true_bne, Bool.false_bne, and_true, true_and, fnW]
  rw [if_neg (by decide)]
  refine pIx_lst (y := .str "players") rfl ?_
  refine pEq_str okPl okPl ?_
  rw [beq_self_eq_true]
  simp only [sSeq, sNext, sRet, sRetN, sRetV, sSet, sIf, sDrop, sTgt, sPar, sNever, wTmps, setAll, sFor, gNm, IL.gTup, gEach, tTrue, tTru, tOf, tNotW, tAndW, tOrW, oAnd, oOr, oNotT, oIf, oChain, oTup, oLst, wArgs, oPrim, withOps, evOps, Opd.ev, oC, oVar, oSl, partEv, oMeth, isStrPV, oComp, oComp2, iSeq, iRange1, iRange2, rgW, oDict0, lift1, lift2, Opr.rd, rdAll, e_rl, Option.map_some, Option.map_none, e_pv, e_po, e_tb, e_ti, e_tn, e_tl, e_tt, e_add, e_addS, e_addL, e_addT, e_sub, e_mul, e_mod, e_fdiv, e_pow, e_neg, e_lt, e_le, e_gt, e_ge, e_eqI, e_lenT, e_lenL, e_lenS, e_lenR, e_tupL, e_tupT, e_intI, e_isiI, e_isiIB, e_isiT, e_isiS, e_isN, e_isI, e_isS, e_isT, e_sqT, e_sqL, e_sqS, wipeE, IL.envOf, List.map_cons, List.map_nil, List.length_cons, List.length_nil, Nat.zero_add, Nat.reduceSub, Nat.reduceAdd, List.replicate, List.cons_append, List.nil_append, List.set_cons_zero, List.set_cons_succ, List.getElem?_cons_zero, List.getElem?_cons_succ, List.getElem?_nil, restE, Option.join, Option.bind_some, Option.bind_none, id_eq, if_true, if_false, Bool.false_eq_true, Bool.not_true, Bool.not_false, Bool.bne_false, Bool.bne_true, reduceIte, Bool.true_bne, Bool.false_bne, and_true, true_and, fnW, bne_self_eq_false]
  refine i_numbers_in (ns := [m]) (fun n hn => ?_) (by simp) ?_
  · rw [List.mem_singleton.mp hn]
    exact small_b hm
  simp only [sSeq, sNext, sRet, sRetN, sRetV, sSet, sIf, sDrop, sTgt, sPar, sNever, wTmps, setAll, sFor, gNm, IL.gTup, gEach, tTrue, tTru, tOf, tNotW, tAndW, tOrW, oAnd, oOr, oNotT, oIf, oChain, oTup, oLst, wArgs, oPrim, withOps, evOps, Opd.ev, oC, oVar, oSl, partEv, oMeth, isStrPV, oComp, oComp2, iSeq, iRange1, iRange2, rgW, oDict0, lift1, lift2, Opr.rd, rdAll, e_rl, Option.map_some, Option.map_none, e_pv, e_po, e_tb, e_ti, e_tn, e_tl, e_tt, e_add, e_addS, e_addL, e_addT, e_sub, e_mul, e_mod, e_fdiv, e_pow, e_neg, e_lt, e_le, e_gt, e_ge, e_eqI, e_lenT, e_lenL, e_lenS, e_lenR, e_tupL, e_tupT, e_intI, e_isiI, e_isiIB, e_isiT, e_isiS, e_isN, e_isI, e_isS, e_isT, e_sqT, e_sqL, e_sqS, wipeE, IL.envOf, List.map_cons, List.map_nil, List.length_cons, List.length_nil, Nat.zero_add, Nat.reduceSub, Nat.reduceAdd, List.replicate, List.cons_append, List.nil_append, List.set_cons_zero, List.set_cons_succ, List.getElem?_cons_zero, List.getElem?_cons_succ, List.getElem?_nil, restE, Option.join, Option.bind_some, Option.bind_none, id_eq, if_true, if_false, Bool.false_eq_true, Bool.not_true, Bool.not_false, Bool.bne_false, Bool.bne_true, reduceIte, Bool.true_bne, Bool.false_bne, and_true, true_and, fnW]
  refine ⟨rfl, ?_⟩
  simp only [sSeq, sNext, sRet, sRetN, sRetV, sSet, sIf, sDrop, sTgt, sPar, sNever, wTmps, setAll, sFor, gNm, IL.gTup, gEach, tTrue, tTru, tOf, tNotW, tAndW, tOrW, oAnd, oOr, oNotT, oIf, oChain, oTup, oLst, wArgs, oPrim, withOps, evOps, Opd.ev, oC, oVar, oSl, partEv, oMeth, isStrPV, oComp, oComp2, iSeq, iRange1, iRange2, rgW, oDict0, lift1, lift2, Opr.rd, rdAll, e_rl, Option.map_some, Option.map_none, e_pv, e_po, e_tb, e_ti, e_tn, e_tl, e_tt, e_add, e_addS, e_addL, e_addT, e_sub, e_mul, e_mod, e_fdiv, e_pow, e_neg, e_lt, e_le, e_gt, e_ge, e_eqI, e_lenT, e_lenL, e_lenS, e_lenR, e_tupL, e_tupT, e_intI, e_isiI, e_isiIB, e_isiT, e_isiS, e_isN, e_isI, e_isS, e_isT, e_sqT, e_sqL, e_sqS, wipeE, IL.envOf, List.map_cons, List.map_nil, List.length_cons, List.length_nil, Nat.zero_add, Nat.reduceSub, Nat.reduceAdd, List.replicate, List.cons_append, List.nil_append, List.set_cons_zero, List.set_cons_succ, List.getElem?_cons_zero, List.getElem?_cons_succ, List.getElem?_nil, restE, Option.join, Option.bind_some, Option.bind_none, id_eq, if_true, if_false, Bool.false_eq_true, Bool.not_true, Bool.not_false, Bool.bne_false, Bool.bne_true, reduceIte, Bool.true_bne, Bool.false_bne, and_true, true_and, fnW, wComp2, wComp]
  exact ⟨size_le (by decide), rfl, h⟩
end ILaw

namespace ILaw
open PySem PySem.Spec PyProof.Rows L2 IL TL
variable {Q : TV → Prop}
theorem tl_cut (z : Str) (lo hi : Option Int) : tl (cutS z lo hi) = ((tl z).drop (HT.sIx z.length 0 lo)).take (HT.sIx z.length z.length hi - HT.sIx z.length 0 lo) := rfl
theorem cut_last {z : Str} {L : List Nat} {c : Nat} (h : tl z = L ++ [c]) : tl (cutS z none (some (-1))) = L := by
  rw [tl_cut, h, TL.len_tl, h]
  show List.take ((-1 + (((L ++ [c]).length : Nat) : Int)).toNat - 0) (List.drop 0 (L ++ [c])) = L
  have e : (-1 + (((L ++ [c]).length : Nat) : Int)).toNat - 0 = L.length := by simp; omega
  rw [e, List.drop_zero, List.take_left']
  rfl
theorem cut_g (m : Nat) (ws : List (Nat × Nat)) : cutS (gText m ws) none (some (-1)) = Txt.join "\n" (linesS m ws) := ext_tl (cut_last (gText1 m ws))
theorem ends_of {z y : Str} {L : List Nat} (hy : tl y ≠ []) (h : tl z = L ++ tl y) : Txt.endswith z y = true := by
  have hl : z.length = L.length + y.length := by rw [TL.len_tl, TL.len_tl, h, List.length_append]
  have := (at_iff (x := z) (y := y) hy L.length).mpr (by
    rw [h, List.drop_left]
    have := pre_self (tl y) []
    rwa [List.append_nil] at this)
  unfold Txt.endswith
  have e : z.length - y.length = L.length := by omega
  rw [e, this.2]
  simp
  omega
theorem ends_g (m : Nat) (ws : List (Nat × Nat)) : Txt.endswith (gText m ws) "\n" = true := ends_of (by rw [tlN]; simp) (by rw [gText1, tlN])
def rdLn : PV → List PV
  | .str z => (match Txt.split z " " with | [a, _, b] => [.tup [rdPV (.str a), rdPV (.str b)]] | _ => [])
  | _ => []
theorem rd_ln {p : Nat × Nat} (h1 : p.1 < 100) (h2 : p.2 < 100) : rdLn (.str (lineS p)) = [pPV p] := by
  have e1 := rd_n (small_b h1)
  have e2 := rd_n (small_b h2)
  show (match Txt.split (lineS p) " " with | [a, _, b] => [PV.tup [rdPV (.str a), rdPV (.str b)]] | _ => []) = _
  rw [split_line]
  show [PV.tup [rdPV (nPV p.1), rdPV (nPV p.2)]] = _
  rw [e1, e2]
  rfl
theorem pEnds_ok {a b : Str} {c : Bool} (e : Txt.endswith a b = c) (q : Q (.v (.bl c))) : pEnds (.str a) (.str b) Q := by
  subst e
  exact q
theorem cut_tail {x : PV} {xs : List PV} : cutPV (x :: xs) (some 1) none = xs := by
  show (List.drop (min (1 : Int).toNat (x :: xs).length) (x :: xs)).take ((x :: xs).length - min (1 : Int).toNat (x :: xs).length) = xs
  have e : min (1 : Int).toNat (x :: xs).length = 1 := by simp
  rw [e]
  simp
theorem pSl_tail {x : PV} {xs : List PV} (q : Q (.own (.lst xs))) : pSl (some 1) none (.lst (x :: xs)) Q := by
  show Q (.own (.lst (cutPV (x :: xs) (some 1) none)))
  rw [cut_tail]
  exact q
/-! ### data -/
inductive DD : Nat → PV → Prop
  | int (n : Nat) (i : Int) : DD n (.int i)
  | str (n : Nat) {z : Str} (h : PyData.strOk z = true) : DD n (.str z)
  | tup {n : Nat} {xs : List PV} (h : ∀ x ∈ xs, DD n x) : DD (n + 1) (.tup xs)
  | lst {n : Nat} {xs : List PV} (h : ∀ x ∈ xs, DD n x) : DD (n + 1) (.lst xs)
theorem dds {n : Nat} : ∀ {xs : List PV}, (∀ x ∈ xs, ∃ d, dat x = some d ∧ d.canLay0 = true ∧ d.depth ≤ n) → ∃ ds, datL xs = some ds ∧ PyData.canLayAll0 ds = true ∧ PyData.depthAll ds ≤ n
  | [], _ => ⟨[], by simp [datL], rfl, by simp [PyData.depthAll]⟩
  | x :: xs, h => by
    obtain ⟨d, h1, h2, h3⟩ := h x List.mem_cons_self
    obtain ⟨ds, g1, g2, g3⟩ := dds fun y hy => h y (List.mem_cons_of_mem _ hy)
    refine ⟨d :: ds, by simp only [datL]; rw [h1, g1], by simp [PyData.canLayAll0, h2, g2], by simp only [PyData.depthAll]; omega⟩
theorem dd_dat {n : Nat} {x : PV} (h : DD n x) : ∃ d, dat x = some d ∧ d.canLay0 = true ∧ d.depth ≤ n := by
  induction h with
  | int n i => exact ⟨.int i, rfl, rfl, Nat.zero_le _⟩
  | str n h => exact ⟨_, rfl, by simp [PyData.canLay0, h], Nat.zero_le _⟩
  | tup h ih =>
    obtain ⟨ds, g1, g2, g3⟩ := dds ih
    exact ⟨.tuple ds, by simp only [dat]; rw [g1]; rfl, by simp [PyData.canLay0, g2], by simp only [PyData.depth]; omega⟩
  | lst h ih =>
    obtain ⟨ds, g1, g2, g3⟩ := dds ih
    exact ⟨.list ds, by simp only [dat]; rw [g1]; rfl, by simp [PyData.canLay0, g2], by simp only [PyData.depth]; omega⟩
theorem dd_ok {n : Nat} {x : PV} (h : DD n x) (hn : n ≤ 64) : okD x = true := by
  obtain ⟨d, h1, h2, h3⟩ := dd_dat h
  unfold okD
  rw [h1]
  show SeqAt.shaped d = true
  unfold SeqAt.shaped
  rw [h2, decide_eq_true (by omega)]
  rfl
theorem DD.mono {n m : Nat} {x : PV} (h : DD n x) (hn : n ≤ m) : DD m x := by
  induction h generalizing m with
  | int n i => exact .int m i
  | str n h => exact .str m h
  | tup h ih => obtain ⟨k, rfl⟩ : ∃ k, m = k + 1 := ⟨m - 1, by omega⟩; exact .tup fun x hx => ih x hx (by omega)
  | lst h ih => obtain ⟨k, rfl⟩ : ∃ k, m = k + 1 := ⟨m - 1, by omega⟩; exact .lst fun x hx => ih x hx (by omega)
theorem dd_nums {ns : List Nat} : DD 1 (.tup (ns.map iPV)) := .tup fun x hx => by
  obtain ⟨n, _, rfl⟩ := List.mem_map.mp hx
  exact .int 0 _
theorem dd_pPV (p : Nat × Nat) : DD 1 (pPV p) := .tup fun x hx => by
  simp only [List.mem_cons, List.not_mem_nil, or_false] at hx
  rcases hx with rfl | rfl <;> exact .int 0 _
theorem dd_g (m : Nat) (ws : List (Nat × Nat)) : DD 3 (gPV m ws) := .tup fun x hx => by
  simp only [List.mem_cons, List.not_mem_nil, or_false] at hx
  rcases hx with rfl | rfl
  · exact .int 2 _
  · exact .tup fun y hy => by
      obtain ⟨p, _, rfl⟩ := List.mem_map.mp hy
      exact dd_pPV p
/-- == of a list with something, and the empty one -/
theorem pEq_nil {n : Nat} {ng : Bool} {x : PV} {xs : List PV} (h : DD n (.lst (x :: xs))) (hn : n ≤ 64) (q : Q (.v (.bl ng))) : pEq ng (.lst (x :: xs)) (.lst []) Q := by
  refine ⟨dd_ok h hn, by decide +kernel, ?_⟩
  obtain ⟨d, h1, _, _⟩ := dd_dat h
  have e : eqPV (.lst (x :: xs)) (.lst []) = false := by
    unfold eqPV
    rw [h1]
    simp only [dat, datL] at h1 ⊢
    split at h1
    · cases h1
      simp [PyData.eqv, PyData.eqvAll]
    · cases h1
  rw [e]
  cases ng <;> exact q
theorem pIx_lst0 {x : PV} {xs : List PV} (q : Q (.v x)) : pIx (.lst (x :: xs)) (.int 0) Q := pIx_lst (atI_at (j := 0) rfl rfl) q
theorem pIx_tup0 {x : PV} {xs : List PV} (q : Q (.v x)) : pIx (.tup (x :: xs)) (.int 0) Q := pIx_tup (atI_at (j := 0) rfl rfl) q
theorem pIx_tup1 {x y : PV} {xs : List PV} (q : Q (.v y)) : pIx (.tup (x :: y :: xs)) (.int 1) Q := pIx_tup (atI_at (j := 1) rfl rfl) q
theorem i_games_with_text {m : Nat} {ws : List (Nat × Nat)} (g : Good m ws) (h : Q (.own (.lst [gPV m ws]))) : F_games_with_text [.str (gText m ws)] Q := by
  have hL : (ws.map pPV).length ≤ 64 := by simpa using g.len
  have hW := g.len
  have m8 := g.m8
  have gl := gText_len g
  have jl : (Txt.join "\n" (linesS m ws)).length ≤ 5000 := by rw [← cut_g]; exact Nat.le_trans (cutS_length _ _ _) gl
  have hrd : ((ws.map lineS).map PV.str).flatMap rdLn = ws.map pPV := by
    rw [List.flatMap_map, List.flatMap_map, List.map_eq_flatMap (f := pPV)]
    have : ∀ l : List (Nat × Nat), (∀ p ∈ l, p ∈ ws) → (l.flatMap fun p => rdLn (.str (lineS p))) = l.flatMap fun p => [pPV p] := by
      intro l
      induction l with
      | nil => intro _; rfl
      | cons p l ih =>
        intro hl
        have r := g.rng p (hl p (by simp))
        rw [List.flatMap_cons, List.flatMap_cons, ih fun q hq => hl q (by simp [hq]), rd_ln (by omega) (by omega)]
    exact this ws fun _ z => z
  unfold F_games_with_text b_games_with_text
  simp only [sSeq, sNext, sRet, sRetN, sRetV, sSet, sIf, sDrop, sTgt, sPar, sNever, wTmps, setAll, sFor, gNm, IL.gTup, gEach, tTrue, tTru, tOf, tNotW, tAndW, tOrW, oAnd, oOr, oNotT, oIf, oChain, oTup, oLst, wArgs, oPrim, withOps, evOps, Opd.ev, oC, oVar, oSl, partEv, oMeth, isStrPV, oComp, oComp2, iSeq, iRange1, iRange2, rgW, oDict0, lift1, lift2, Opr.rd, rdAll, e_rl, Option.map_some, Option.map_none, e_pv, e_po, e_tb, e_ti, e_tn, e_tl, e_tt, e_add, e_addS, e_addL, e_addT, e_sub, e_mul, e_mod, e_fdiv, e_pow, e_neg, e_lt, e_le, e_gt, e_ge, e_eqI, e_lenT, e_lenL, e_lenS, e_lenR, e_tupL, e_tupT, e_intI, e_isiI, e_isiIB, e_isiT, e_isiS, e_isN, e_isI, e_isS, e_isT, e_sqT, e_sqL, e_sqS, wipeE, IL.envOf, List.map_cons, List.map_nil, List.length_cons, List.length_nil, Nat.zero_add, Nat.reduceSub, Nat.reduceAdd, List.replicate, List.cons_append, List.nil_append, List.set_cons_zero, List.set_cons_succ, List.getElem?_cons_zero, List.getElem?_cons_succ, List.getElem?_nil, restE, Option.join, Option.bind_some, Option.bind_none, id_eq, if_true, if_false, Bool.false_eq_true, Bool.not_true, Bool.not_false, Bool.bne_false, Bool.bne_true, reduceIte, Bool.true_bne, Bool.false_bne, and_true, true_and, fnW, oCall]
  refine pEnds_ok (ends_g m ws) ?_
  simp only [sSeq, sNext, sRet, sRetN, sRetV, sSet, sIf, sDrop, sTgt, sPar, sNever, wTmps, setAll, sFor, gNm, IL.gTup, gEach, tTrue, tTru, tOf, tNotW, tAndW, tOrW, oAnd, oOr, oNotT, oIf, oChain, oTup, oLst, wArgs, oPrim, withOps, evOps, Opd.ev, oC, oVar, oSl, partEv, oMeth, isStrPV, oComp, oComp2, iSeq, iRange1, iRange2, rgW, oDict0, lift1, lift2, Opr.rd, rdAll, e_rl, Option.map_some, Option.map_none, e_pv, e_po, e_tb, e_ti, e_tn, e_tl, e_tt, e_add, e_addS, e_addL, e_addT, e_sub, e_mul, e_mod, e_fdiv, e_pow, e_neg, e_lt, e_le, e_gt, e_ge, e_eqI, e_lenT, e_lenL, e_lenS, e_lenR, e_tupL, e_tupT, e_intI, e_isiI, e_isiIB, e_isiT, e_isiS, e_isN, e_isI, e_isS, e_isT, e_sqT, e_sqL, e_sqS, wipeE, IL.envOf, List.map_cons, List.map_nil, List.length_cons, List.length_nil, Nat.zero_add, Nat.reduceSub, Nat.reduceAdd, List.replicate, List.cons_append, List.nil_append, List.set_cons_zero, List.set_cons_succ, List.getElem?_cons_zero, List.getElem?_cons_succ, List.getElem?_nil, restE, Option.join, Option.bind_some, Option.bind_none, id_eq, if_true, if_false, Bool.false_eq_true, Bool.not_true, Bool.not_false, Bool.bne_false, Bool.bne_true, reduceIte, Bool.true_bne, Bool.false_bne, and_true, true_and, fnW]
  refine ⟨size_le (by omega), ?_⟩
  rw [cut_g]
  simp only [sSeq, sNext, sRet, sRetN, sRetV, sSet, sIf, sDrop, sTgt, sPar, sNever, wTmps, setAll, sFor, gNm, IL.gTup, gEach, tTrue, tTru, tOf, tNotW, tAndW, tOrW, oAnd, oOr, oNotT, oIf, oChain, oTup, oLst, wArgs, oPrim, withOps, evOps, Opd.ev, oC, oVar, oSl, partEv, oMeth, isStrPV, oComp, oComp2, iSeq, iRange1, iRange2, rgW, oDict0, lift1, lift2, Opr.rd, rdAll, e_rl, Option.map_some, Option.map_none, e_pv, e_po, e_tb, e_ti, e_tn, e_tl, e_tt, e_add, e_addS, e_addL, e_addT, e_sub, e_mul, e_mod, e_fdiv, e_pow, e_neg, e_lt, e_le, e_gt, e_ge, e_eqI, e_lenT, e_lenL, e_lenS, e_lenR, e_tupL, e_tupT, e_intI, e_isiI, e_isiIB, e_isiT, e_isiS, e_isN, e_isI, e_isS, e_isT, e_sqT, e_sqL, e_sqS, wipeE, IL.envOf, List.map_cons, List.map_nil, List.length_cons, List.length_nil, Nat.zero_add, Nat.reduceSub, Nat.reduceAdd, List.replicate, List.cons_append, List.nil_append, List.set_cons_zero, List.set_cons_succ, List.getElem?_cons_zero, List.getElem?_cons_succ, List.getElem?_nil, restE, Option.join, Option.bind_some, Option.bind_none, id_eq, if_true, if_false, Bool.false_eq_true, Bool.not_true, Bool.not_false, Bool.bne_false, Bool.bne_true, reduceIte, Bool.true_bne, Bool.false_bne, and_true, true_and, fnW]
  refine pSplit_ok lenN0 (by omega) (by rw [split_g2]; simp [linesS]; omega) ?_
  rw [split_g2]
  simp only [sSeq, sNext, sRet, sRetN, sRetV, sSet, sIf, sDrop, sTgt, sPar, sNever, wTmps, setAll, sFor, gNm, IL.gTup, gEach, tTrue, tTru, tOf, tNotW, tAndW, tOrW, oAnd, oOr, oNotT, oIf, oChain, oTup, oLst, wArgs, oPrim, withOps, evOps, Opd.ev, oC, oVar, oSl, partEv, oMeth, isStrPV, oComp, oComp2, iSeq, iRange1, iRange2, rgW, oDict0, lift1, lift2, Opr.rd, rdAll, e_rl, Option.map_some, Option.map_none, e_pv, e_po, e_tb, e_ti, e_tn, e_tl, e_tt, e_add, e_addS, e_addL, e_addT, e_sub, e_mul, e_mod, e_fdiv, e_pow, e_neg, e_lt, e_le, e_gt, e_ge, e_eqI, e_lenT, e_lenL, e_lenS, e_lenR, e_tupL, e_tupT, e_intI, e_isiI, e_isiIB, e_isiT, e_isiS, e_isN, e_isI, e_isS, e_isT, e_sqT, e_sqL, e_sqS, wipeE, IL.envOf, List.map_cons, List.map_nil, List.length_cons, List.length_nil, Nat.zero_add, Nat.reduceSub, Nat.reduceAdd, List.replicate, List.cons_append, List.nil_append, List.set_cons_zero, List.set_cons_succ, List.getElem?_cons_zero, List.getElem?_cons_succ, List.getElem?_nil, restE, Option.join, Option.bind_some, Option.bind_none, id_eq, if_true, if_false, Bool.false_eq_true, Bool.not_true, Bool.not_false, Bool.bne_false, Bool.bne_true, reduceIte, Bool.true_bne, Bool.false_bne, and_true, true_and, fnW, linesS]
  refine pSl_tail ?_
  simp only [sSeq, sNext, sRet, sRetN, sRetV, sSet, sIf, sDrop, sTgt, sPar, sNever, wTmps, setAll, sFor, gNm, IL.gTup, gEach, tTrue, tTru, tOf, tNotW, tAndW, tOrW, oAnd, oOr, oNotT, oIf, oChain, oTup, oLst, wArgs, oPrim, withOps, evOps, Opd.ev, oC, oVar, oSl, partEv, oMeth, isStrPV, oComp, oComp2, iSeq, iRange1, iRange2, rgW, oDict0, lift1, lift2, Opr.rd, rdAll, e_rl, Option.map_some, Option.map_none, e_pv, e_po, e_tb, e_ti, e_tn, e_tl, e_tt, e_add, e_addS, e_addL, e_addT, e_sub, e_mul, e_mod, e_fdiv, e_pow, e_neg, e_lt, e_le, e_gt, e_ge, e_eqI, e_lenT, e_lenL, e_lenS, e_lenR, e_tupL, e_tupT, e_intI, e_isiI, e_isiIB, e_isiT, e_isiS, e_isN, e_isI, e_isS, e_isT, e_sqT, e_sqL, e_sqS, wipeE, IL.envOf, List.map_cons, List.map_nil, List.length_cons, List.length_nil, Nat.zero_add, Nat.reduceSub, Nat.reduceAdd, List.replicate, List.cons_append, List.nil_append, List.set_cons_zero, List.set_cons_succ, List.getElem?_cons_zero, List.getElem?_cons_succ, List.getElem?_nil, restE, Option.join, Option.bind_some, Option.bind_none, id_eq, if_true, if_false, Bool.false_eq_true, Bool.not_true, Bool.not_false, Bool.bne_false, Bool.bne_true, reduceIte, Bool.true_bne, Bool.false_bne, and_true, true_and, fnW]
  refine ⟨rfl, ?_⟩
  refine wComp2_fm rdLn (by rw [hrd]; exact size_le (by simp; omega)) (fun x hx K acc ha hk => ?_) ?_
  · obtain ⟨y, hy, rfl⟩ := List.mem_map.mp hx
    obtain ⟨p, hp, rfl⟩ := List.mem_map.mp hy
    have r := g.rng p hp
    rw [rd_ln (by omega) (by omega)] at hk ha
    simp only [sSeq, sNext, sRet, sRetN, sRetV, sSet, sIf, sDrop, sTgt, sPar, sNever, wTmps, setAll, sFor, gNm, IL.gTup, gEach, tTrue, tTru, tOf, tNotW, tAndW, tOrW, oAnd, oOr, oNotT, oIf, oChain, oTup, oLst, wArgs, oPrim, withOps, evOps, Opd.ev, oC, oVar, oSl, partEv, oMeth, isStrPV, oComp, oComp2, iSeq, iRange1, iRange2, rgW, oDict0, lift1, lift2, Opr.rd, rdAll, e_rl, Option.map_some, Option.map_none, e_pv, e_po, e_tb, e_ti, e_tn, e_tl, e_tt, e_add, e_addS, e_addL, e_addT, e_sub, e_mul, e_mod, e_fdiv, e_pow, e_neg, e_lt, e_le, e_gt, e_ge, e_eqI, e_lenT, e_lenL, e_lenS, e_lenR, e_tupL, e_tupT, e_intI, e_isiI, e_isiIB, e_isiT, e_isiS, e_isN, e_isI, e_isS, e_isT, e_sqT, e_sqL, e_sqS, wipeE, IL.envOf, List.map_cons, List.map_nil, List.length_cons, List.length_nil, Nat.zero_add, Nat.reduceSub, Nat.reduceAdd, List.replicate, List.cons_append, List.nil_append, List.set_cons_zero, List.set_cons_succ, List.getElem?_cons_zero, List.getElem?_cons_succ, List.getElem?_nil, restE, Option.join, Option.bind_some, Option.bind_none, id_eq, if_true, if_false, Bool.false_eq_true, Bool.not_true, Bool.not_false, Bool.bne_false, Bool.bne_true, reduceIte, Bool.true_bne, Bool.false_bne, and_true, true_and, fnW, oCall]
    refine i_win_in (by omega) (by omega) ?_
    simp only [sSeq, sNext, sRet, sRetN, sRetV, sSet, sIf, sDrop, sTgt, sPar, sNever, wTmps, setAll, sFor, gNm, IL.gTup, gEach, tTrue, tTru, tOf, tNotW, tAndW, tOrW, oAnd, oOr, oNotT, oIf, oChain, oTup, oLst, wArgs, oPrim, withOps, evOps, Opd.ev, oC, oVar, oSl, partEv, oMeth, isStrPV, oComp, oComp2, iSeq, iRange1, iRange2, rgW, oDict0, lift1, lift2, Opr.rd, rdAll, e_rl, Option.map_some, Option.map_none, e_pv, e_po, e_tb, e_ti, e_tn, e_tl, e_tt, e_add, e_addS, e_addL, e_addT, e_sub, e_mul, e_mod, e_fdiv, e_pow, e_neg, e_lt, e_le, e_gt, e_ge, e_eqI, e_lenT, e_lenL, e_lenS, e_lenR, e_tupL, e_tupT, e_intI, e_isiI, e_isiIB, e_isiT, e_isiS, e_isN, e_isI, e_isS, e_isT, e_sqT, e_sqL, e_sqS, wipeE, IL.envOf, List.map_cons, List.map_nil, List.length_cons, List.length_nil, Nat.zero_add, Nat.reduceSub, Nat.reduceAdd, List.replicate, List.cons_append, List.nil_append, List.set_cons_zero, List.set_cons_succ, List.getElem?_cons_zero, List.getElem?_cons_succ, List.getElem?_nil, restE, Option.join, Option.bind_some, Option.bind_none, id_eq, if_true, if_false, Bool.false_eq_true, Bool.not_true, Bool.not_false, Bool.bne_false, Bool.bne_true, reduceIte, Bool.true_bne, Bool.false_bne, and_true, true_and, fnW]
    refine ⟨ha, rfl, ?_⟩
    simp only [sSeq, sNext, sRet, sRetN, sRetV, sSet, sIf, sDrop, sTgt, sPar, sNever, wTmps, setAll, sFor, gNm, IL.gTup, gEach, tTrue, tTru, tOf, tNotW, tAndW, tOrW, oAnd, oOr, oNotT, oIf, oChain, oTup, oLst, wArgs, oPrim, withOps, evOps, Opd.ev, oC, oVar, oSl, partEv, oMeth, isStrPV, oComp, oComp2, iSeq, iRange1, iRange2, rgW, oDict0, lift1, lift2, Opr.rd, rdAll, e_rl, Option.map_some, Option.map_none, e_pv, e_po, e_tb, e_ti, e_tn, e_tl, e_tt, e_add, e_addS, e_addL, e_addT, e_sub, e_mul, e_mod, e_fdiv, e_pow, e_neg, e_lt, e_le, e_gt, e_ge, e_eqI, e_lenT, e_lenL, e_lenS, e_lenR, e_tupL, e_tupT, e_intI, e_isiI, e_isiIB, e_isiT, e_isiS, e_isN, e_isI, e_isS, e_isT, e_sqT, e_sqL, e_sqS, wipeE, IL.envOf, List.map_cons, List.map_nil, List.length_cons, List.length_nil, Nat.zero_add, Nat.reduceSub, Nat.reduceAdd, List.replicate, List.cons_append, List.nil_append, List.set_cons_zero, List.set_cons_succ, List.getElem?_cons_zero, List.getElem?_cons_succ, List.getElem?_nil, restE, Option.join, Option.bind_some, Option.bind_none, id_eq, if_true, if_false, Bool.false_eq_true, Bool.not_true, Bool.not_false, Bool.bne_false, Bool.bne_true, reduceIte, Bool.true_bne, Bool.false_bne, and_true, true_and, fnW, wComp]
    exact hk
  · rw [hrd, List.nil_append]
    simp only [sSeq, sNext, sRet, sRetN, sRetV, sSet, sIf, sDrop, sTgt, sPar, sNever, wTmps, setAll, sFor, gNm, IL.gTup, gEach, tTrue, tTru, tOf, tNotW, tAndW, tOrW, oAnd, oOr, oNotT, oIf, oChain, oTup, oLst, wArgs, oPrim, withOps, evOps, Opd.ev, oC, oVar, oSl, partEv, oMeth, isStrPV, oComp, oComp2, iSeq, iRange1, iRange2, rgW, oDict0, lift1, lift2, Opr.rd, rdAll, e_rl, Option.map_some, Option.map_none, e_pv, e_po, e_tb, e_ti, e_tn, e_tl, e_tt, e_add, e_addS, e_addL, e_addT, e_sub, e_mul, e_mod, e_fdiv, e_pow, e_neg, e_lt, e_le, e_gt, e_ge, e_eqI, e_lenT, e_lenL, e_lenS, e_lenR, e_tupL, e_tupT, e_intI, e_isiI, e_isiIB, e_isiT, e_isiS, e_isN, e_isI, e_isS, e_isT, e_sqT, e_sqL, e_sqS, wipeE, IL.envOf, List.map_cons, List.map_nil, List.length_cons, List.length_nil, Nat.zero_add, Nat.reduceSub, Nat.reduceAdd, List.replicate, List.cons_append, List.nil_append, List.set_cons_zero, List.set_cons_succ, List.getElem?_cons_zero, List.getElem?_cons_succ, List.getElem?_nil, restE, Option.join, Option.bind_some, Option.bind_none, id_eq, if_true, if_false, Bool.false_eq_true, Bool.not_true, Bool.not_false, Bool.bne_false, Bool.bne_true, reduceIte, Bool.true_bne, Bool.false_bne, and_true, true_and, fnW]
    have hne : (((List.map pPV ws).length : Nat) : Int) = (((List.map PV.str (List.map lineS ws)).length + 1 : Nat) : Int) - 1 := by simp
    rw [if_neg (by rw [hne, beq_self_eq_true]; decide)]
    refine pIx_lst0 ?_
    refine i_many_in (by omega) ?_
    simp only [sSeq, sNext, sRet, sRetN, sRetV, sSet, sIf, sDrop, sTgt, sPar, sNever, wTmps, setAll, sFor, gNm, IL.gTup, gEach, tTrue, tTru, tOf, tNotW, tAndW, tOrW, oAnd, oOr, oNotT, oIf, oChain, oTup, oLst, wArgs, oPrim, withOps, evOps, Opd.ev, oC, oVar, oSl, partEv, oMeth, isStrPV, oComp, oComp2, iSeq, iRange1, iRange2, rgW, oDict0, lift1, lift2, Opr.rd, rdAll, e_rl, Option.map_some, Option.map_none, e_pv, e_po, e_tb, e_ti, e_tn, e_tl, e_tt, e_add, e_addS, e_addL, e_addT, e_sub, e_mul, e_mod, e_fdiv, e_pow, e_neg, e_lt, e_le, e_gt, e_ge, e_eqI, e_lenT, e_lenL, e_lenS, e_lenR, e_tupL, e_tupT, e_intI, e_isiI, e_isiIB, e_isiT, e_isiS, e_isN, e_isI, e_isS, e_isT, e_sqT, e_sqL, e_sqS, wipeE, IL.envOf, List.map_cons, List.map_nil, List.length_cons, List.length_nil, Nat.zero_add, Nat.reduceSub, Nat.reduceAdd, List.replicate, List.cons_append, List.nil_append, List.set_cons_zero, List.set_cons_succ, List.getElem?_cons_zero, List.getElem?_cons_succ, List.getElem?_nil, restE, Option.join, Option.bind_some, Option.bind_none, id_eq, if_true, if_false, Bool.false_eq_true, Bool.not_true, Bool.not_false, Bool.bne_false, Bool.bne_true, reduceIte, Bool.true_bne, Bool.false_bne, and_true, true_and, fnW]
    refine ⟨size_le (by decide), rfl, ?_⟩
    simp only [sSeq, sNext, sRet, sRetN, sRetV, sSet, sIf, sDrop, sTgt, sPar, sNever, wTmps, setAll, sFor, gNm, IL.gTup, gEach, tTrue, tTru, tOf, tNotW, tAndW, tOrW, oAnd, oOr, oNotT, oIf, oChain, oTup, oLst, wArgs, oPrim, withOps, evOps, Opd.ev, oC, oVar, oSl, partEv, oMeth, isStrPV, oComp, oComp2, iSeq, iRange1, iRange2, rgW, oDict0, lift1, lift2, Opr.rd, rdAll, e_rl, Option.map_some, Option.map_none, e_pv, e_po, e_tb, e_ti, e_tn, e_tl, e_tt, e_add, e_addS, e_addL, e_addT, e_sub, e_mul, e_mod, e_fdiv, e_pow, e_neg, e_lt, e_le, e_gt, e_ge, e_eqI, e_lenT, e_lenL, e_lenS, e_lenR, e_tupL, e_tupT, e_intI, e_isiI, e_isiIB, e_isiT, e_isiS, e_isN, e_isI, e_isS, e_isT, e_sqT, e_sqL, e_sqS, wipeE, IL.envOf, List.map_cons, List.map_nil, List.length_cons, List.length_nil, Nat.zero_add, Nat.reduceSub, Nat.reduceAdd, List.replicate, List.cons_append, List.nil_append, List.set_cons_zero, List.set_cons_succ, List.getElem?_cons_zero, List.getElem?_cons_succ, List.getElem?_nil, restE, Option.join, Option.bind_some, Option.bind_none, id_eq, if_true, if_false, Bool.false_eq_true, Bool.not_true, Bool.not_false, Bool.bne_false, Bool.bne_true, reduceIte, Bool.true_bne, Bool.false_bne, and_true, true_and, fnW, wComp, iPV, oCall]
    refine i_are_games_by g ?_
    simp only [sSeq, sNext, sRet, sRetN, sRetV, sSet, sIf, sDrop, sTgt, sPar, sNever, wTmps, setAll, sFor, gNm, IL.gTup, gEach, tTrue, tTru, tOf, tNotW, tAndW, tOrW, oAnd, oOr, oNotT, oIf, oChain, oTup, oLst, wArgs, oPrim, withOps, evOps, Opd.ev, oC, oVar, oSl, partEv, oMeth, isStrPV, oComp, oComp2, iSeq, iRange1, iRange2, rgW, oDict0, lift1, lift2, Opr.rd, rdAll, e_rl, Option.map_some, Option.map_none, e_pv, e_po, e_tb, e_ti, e_tn, e_tl, e_tt, e_add, e_addS, e_addL, e_addT, e_sub, e_mul, e_mod, e_fdiv, e_pow, e_neg, e_lt, e_le, e_gt, e_ge, e_eqI, e_lenT, e_lenL, e_lenS, e_lenR, e_tupL, e_tupT, e_intI, e_isiI, e_isiIB, e_isiT, e_isiS, e_isN, e_isI, e_isS, e_isT, e_sqT, e_sqL, e_sqS, wipeE, IL.envOf, List.map_cons, List.map_nil, List.length_cons, List.length_nil, Nat.zero_add, Nat.reduceSub, Nat.reduceAdd, List.replicate, List.cons_append, List.nil_append, List.set_cons_zero, List.set_cons_succ, List.getElem?_cons_zero, List.getElem?_cons_succ, List.getElem?_nil, restE, Option.join, Option.bind_some, Option.bind_none, id_eq, if_true, if_false, Bool.false_eq_true, Bool.not_true, Bool.not_false, Bool.bne_false, Bool.bne_true, reduceIte, Bool.true_bne, Bool.false_bne, and_true, true_and, fnW]
    exact h
theorem i_games_text {m : Nat} {ws : List (Nat × Nat)} (g : Good m ws) (h : Q (.v (.str (gText m ws)))) : F_games_text [gPV m ws] Q := by
  unfold F_games_text b_games_text
  simp only [sSeq, sNext, sRet, sRetN, sRetV, sSet, sIf, sDrop, sTgt, sPar, sNever, wTmps, setAll, sFor, gNm, IL.gTup, gEach, tTrue, tTru, tOf, tNotW, tAndW, tOrW, oAnd, oOr, oNotT, oIf, oChain, oTup, oLst, wArgs, oPrim, withOps, evOps, Opd.ev, oC, oVar, oSl, partEv, oMeth, isStrPV, oComp, oComp2, iSeq, iRange1, iRange2, rgW, oDict0, lift1, lift2, Opr.rd, rdAll, e_rl, Option.map_some, Option.map_none, e_pv, e_po, e_tb, e_ti, e_tn, e_tl, e_tt, e_add, e_addS, e_addL, e_addT, e_sub, e_mul, e_mod, e_fdiv, e_pow, e_neg, e_lt, e_le, e_gt, e_ge, e_eqI, e_lenT, e_lenL, e_lenS, e_lenR, e_tupL, e_tupT, e_intI, e_isiI, e_isiIB, e_isiT, e_isiS, e_isN, e_isI, e_isS, e_isT, e_sqT, e_sqL, e_sqS, wipeE, IL.envOf, List.map_cons, List.map_nil, List.length_cons, List.length_nil, Nat.zero_add, Nat.reduceSub, Nat.reduceAdd, List.replicate, List.cons_append, List.nil_append, List.set_cons_zero, List.set_cons_succ, List.getElem?_cons_zero, List.getElem?_cons_succ, List.getElem?_nil, restE, Option.join, Option.bind_some, Option.bind_none, id_eq, if_true, if_false, Bool.false_eq_true, Bool.not_true, Bool.not_false, Bool.bne_false, Bool.bne_true, reduceIte, Bool.true_bne, Bool.false_bne, and_true, true_and, fnW, oCall]
  refine i_check_games g ?_
  exact i_text_of_games g h
theorem i_read_games {m : Nat} {ws : List (Nat × Nat)} (g : Good m ws) (h : Q (.v (gPV m ws))) : F_read_games [.str (gText m ws)] Q := by
  unfold F_read_games b_read_games
  simp only [sSeq, sNext, sRet, sRetN, sRetV, sSet, sIf, sDrop, sTgt, sPar, sNever, wTmps, setAll, sFor, gNm, IL.gTup, gEach, tTrue, tTru, tOf, tNotW, tAndW, tOrW, oAnd, oOr, oNotT, oIf, oChain, oTup, oLst, wArgs, oPrim, withOps, evOps, Opd.ev, oC, oVar, oSl, partEv, oMeth, isStrPV, oComp, oComp2, iSeq, iRange1, iRange2, rgW, oDict0, lift1, lift2, Opr.rd, rdAll, e_rl, Option.map_some, Option.map_none, e_pv, e_po, e_tb, e_ti, e_tn, e_tl, e_tt, e_add, e_addS, e_addL, e_addT, e_sub, e_mul, e_mod, e_fdiv, e_pow, e_neg, e_lt, e_le, e_gt, e_ge, e_eqI, e_lenT, e_lenL, e_lenS, e_lenR, e_tupL, e_tupT, e_intI, e_isiI, e_isiIB, e_isiT, e_isiS, e_isN, e_isI, e_isS, e_isT, e_sqT, e_sqL, e_sqS, wipeE, IL.envOf, List.map_cons, List.map_nil, List.length_cons, List.length_nil, Nat.zero_add, Nat.reduceSub, Nat.reduceAdd, List.replicate, List.cons_append, List.nil_append, List.set_cons_zero, List.set_cons_succ, List.getElem?_cons_zero, List.getElem?_cons_succ, List.getElem?_nil, restE, Option.join, Option.bind_some, Option.bind_none, id_eq, if_true, if_false, Bool.false_eq_true, Bool.not_true, Bool.not_false, Bool.bne_false, Bool.bne_true, reduceIte, Bool.true_bne, Bool.false_bne, and_true, true_and, fnW, oCall]
  refine i_games_with_text g ?_
  simp only [sSeq, sNext, sRet, sRetN, sRetV, sSet, sIf, sDrop, sTgt, sPar, sNever, wTmps, setAll, sFor, gNm, IL.gTup, gEach, tTrue, tTru, tOf, tNotW, tAndW, tOrW, oAnd, oOr, oNotT, oIf, oChain, oTup, oLst, wArgs, oPrim, withOps, evOps, Opd.ev, oC, oVar, oSl, partEv, oMeth, isStrPV, oComp, oComp2, iSeq, iRange1, iRange2, rgW, oDict0, lift1, lift2, Opr.rd, rdAll, e_rl, Option.map_some, Option.map_none, e_pv, e_po, e_tb, e_ti, e_tn, e_tl, e_tt, e_add, e_addS, e_addL, e_addT, e_sub, e_mul, e_mod, e_fdiv, e_pow, e_neg, e_lt, e_le, e_gt, e_ge, e_eqI, e_lenT, e_lenL, e_lenS, e_lenR, e_tupL, e_tupT, e_intI, e_isiI, e_isiIB, e_isiT, e_isiS, e_isN, e_isI, e_isS, e_isT, e_sqT, e_sqL, e_sqS, wipeE, IL.envOf, List.map_cons, List.map_nil, List.length_cons, List.length_nil, Nat.zero_add, Nat.reduceSub, Nat.reduceAdd, List.replicate, List.cons_append, List.nil_append, List.set_cons_zero, List.set_cons_succ, List.getElem?_cons_zero, List.getElem?_cons_succ, List.getElem?_nil, restE, Option.join, Option.bind_some, Option.bind_none, id_eq, if_true, if_false, Bool.false_eq_true, Bool.not_true, Bool.not_false, Bool.bne_false, Bool.bne_true, reduceIte, Bool.true_bne, Bool.false_bne, and_true, true_and, fnW]
  refine pEq_nil (n := 4) (.lst fun x hx => by rw [List.mem_singleton.mp hx]; exact dd_g m ws) (by omega) ?_
  simp only [sSeq, sNext, sRet, sRetN, sRetV, sSet, sIf, sDrop, sTgt, sPar, sNever, wTmps, setAll, sFor, gNm, IL.gTup, gEach, tTrue, tTru, tOf, tNotW, tAndW, tOrW, oAnd, oOr, oNotT, oIf, oChain, oTup, oLst, wArgs, oPrim, withOps, evOps, Opd.ev, oC, oVar, oSl, partEv, oMeth, isStrPV, oComp, oComp2, iSeq, iRange1, iRange2, rgW, oDict0, lift1, lift2, Opr.rd, rdAll, e_rl, Option.map_some, Option.map_none, e_pv, e_po, e_tb, e_ti, e_tn, e_tl, e_tt, e_add, e_addS, e_addL, e_addT, e_sub, e_mul, e_mod, e_fdiv, e_pow, e_neg, e_lt, e_le, e_gt, e_ge, e_eqI, e_lenT, e_lenL, e_lenS, e_lenR, e_tupL, e_tupT, e_intI, e_isiI, e_isiIB, e_isiT, e_isiS, e_isN, e_isI, e_isS, e_isT, e_sqT, e_sqL, e_sqS, wipeE, IL.envOf, List.map_cons, List.map_nil, List.length_cons, List.length_nil, Nat.zero_add, Nat.reduceSub, Nat.reduceAdd, List.replicate, List.cons_append, List.nil_append, List.set_cons_zero, List.set_cons_succ, List.getElem?_cons_zero, List.getElem?_cons_succ, List.getElem?_nil, restE, Option.join, Option.bind_some, Option.bind_none, id_eq, if_true, if_false, Bool.false_eq_true, Bool.not_true, Bool.not_false, Bool.bne_false, Bool.bne_true, reduceIte, Bool.true_bne, Bool.false_bne, and_true, true_and, fnW]
  exact pIx_lst0 h
theorem i_points {m : Nat} {ws : List (Nat × Nat)} (g : Good m ws) (h : Q (.v (.tup ((pointsL m ws).map iPV)))) : F_points [gPV m ws] Q := by
  unfold F_points b_points
  simp only [sSeq, sNext, sRet, sRetN, sRetV, sSet, sIf, sDrop, sTgt, sPar, sNever, wTmps, setAll, sFor, gNm, IL.gTup, gEach, tTrue, tTru, tOf, tNotW, tAndW, tOrW, oAnd, oOr, oNotT, oIf, oChain, oTup, oLst, wArgs, oPrim, withOps, evOps, Opd.ev, oC, oVar, oSl, partEv, oMeth, isStrPV, oComp, oComp2, iSeq, iRange1, iRange2, rgW, oDict0, lift1, lift2, Opr.rd, rdAll, e_rl, Option.map_some, Option.map_none, e_pv, e_po, e_tb, e_ti, e_tn, e_tl, e_tt, e_add, e_addS, e_addL, e_addT, e_sub, e_mul, e_mod, e_fdiv, e_pow, e_neg, e_lt, e_le, e_gt, e_ge, e_eqI, e_lenT, e_lenL, e_lenS, e_lenR, e_tupL, e_tupT, e_intI, e_isiI, e_isiIB, e_isiT, e_isiS, e_isN, e_isI, e_isS, e_isT, e_sqT, e_sqL, e_sqS, wipeE, IL.envOf, List.map_cons, List.map_nil, List.length_cons, List.length_nil, Nat.zero_add, Nat.reduceSub, Nat.reduceAdd, List.replicate, List.cons_append, List.nil_append, List.set_cons_zero, List.set_cons_succ, List.getElem?_cons_zero, List.getElem?_cons_succ, List.getElem?_nil, restE, Option.join, Option.bind_some, Option.bind_none, id_eq, if_true, if_false, Bool.false_eq_true, Bool.not_true, Bool.not_false, Bool.bne_false, Bool.bne_true, reduceIte, Bool.true_bne, Bool.false_bne, and_true, true_and, fnW, oCall]
  refine i_check_games g ?_
  exact i_points_by g h
theorem i_list_text {ns : List Nat} (hb : ∀ n ∈ ns, n < 10 ^ 100) (h1 : 1 ≤ ns.length) (hl : ns.length ≤ 8) (h : Q (.v (.str (lText ns)))) : F_list_text [.tup (ns.map iPV)] Q := by
  unfold F_list_text b_list_text
  simp only [sSeq, sNext, sRet, sRetN, sRetV, sSet, sIf, sDrop, sTgt, sPar, sNever, wTmps, setAll, sFor, gNm, IL.gTup, gEach, tTrue, tTru, tOf, tNotW, tAndW, tOrW, oAnd, oOr, oNotT, oIf, oChain, oTup, oLst, wArgs, oPrim, withOps, evOps, Opd.ev, oC, oVar, oSl, partEv, oMeth, isStrPV, oComp, oComp2, iSeq, iRange1, iRange2, rgW, oDict0, lift1, lift2, Opr.rd, rdAll, e_rl, Option.map_some, Option.map_none, e_pv, e_po, e_tb, e_ti, e_tn, e_tl, e_tt, e_add, e_addS, e_addL, e_addT, e_sub, e_mul, e_mod, e_fdiv, e_pow, e_neg, e_lt, e_le, e_gt, e_ge, e_eqI, e_lenT, e_lenL, e_lenS, e_lenR, e_tupL, e_tupT, e_intI, e_isiI, e_isiIB, e_isiT, e_isiS, e_isN, e_isI, e_isS, e_isT, e_sqT, e_sqL, e_sqS, wipeE, IL.envOf, List.map_cons, List.map_nil, List.length_cons, List.length_nil, Nat.zero_add, Nat.reduceSub, Nat.reduceAdd, List.replicate, List.cons_append, List.nil_append, List.set_cons_zero, List.set_cons_succ, List.getElem?_cons_zero, List.getElem?_cons_succ, List.getElem?_nil, restE, Option.join, Option.bind_some, Option.bind_none, id_eq, if_true, if_false, Bool.false_eq_true, Bool.not_true, Bool.not_false, Bool.bne_false, Bool.bne_true, reduceIte, Bool.true_bne, Bool.false_bne, and_true, true_and, fnW, oCall]
  have e : ns.map iPV = (ns.map Int.ofNat).map PV.int := by rw [List.map_map]; rfl
  rw [e]
  refine i_check_numbers (ns := ns.map Int.ofNat) (fun n hn => ?_) (by simpa using h1) (by simpa using hl) ?_
  · obtain ⟨k, _, rfl⟩ := List.mem_map.mp hn
    exact Int.natCast_nonneg k
  rw [← e]
  exact i_text_of_numbers hb (by omega) h
theorem i_read_list {ns : List Nat} (hb : ∀ n ∈ ns, n < 10 ^ 100) (h1 : ns ≠ []) (hl : ns.length ≤ 8) (h : Q (.v (.tup (ns.map iPV)))) : F_read_list [.str (lText ns)] Q := by
  unfold F_read_list b_read_list
  simp only [sSeq, sNext, sRet, sRetN, sRetV, sSet, sIf, sDrop, sTgt, sPar, sNever, wTmps, setAll, sFor, gNm, IL.gTup, gEach, tTrue, tTru, tOf, tNotW, tAndW, tOrW, oAnd, oOr, oNotT, oIf, oChain, oTup, oLst, wArgs, oPrim, withOps, evOps, Opd.ev, oC, oVar, oSl, partEv, oMeth, isStrPV, oComp, oComp2, iSeq, iRange1, iRange2, rgW, oDict0, lift1, lift2, Opr.rd, rdAll, e_rl, Option.map_some, Option.map_none, e_pv, e_po, e_tb, e_ti, e_tn, e_tl, e_tt, e_add, e_addS, e_addL, e_addT, e_sub, e_mul, e_mod, e_fdiv, e_pow, e_neg, e_lt, e_le, e_gt, e_ge, e_eqI, e_lenT, e_lenL, e_lenS, e_lenR, e_tupL, e_tupT, e_intI, e_isiI, e_isiIB, e_isiT, e_isiS, e_isN, e_isI, e_isS, e_isT, e_sqT, e_sqL, e_sqS, wipeE, IL.envOf, List.map_cons, List.map_nil, List.length_cons, List.length_nil, Nat.zero_add, Nat.reduceSub, Nat.reduceAdd, List.replicate, List.cons_append, List.nil_append, List.set_cons_zero, List.set_cons_succ, List.getElem?_cons_zero, List.getElem?_cons_succ, List.getElem?_nil, restE, Option.join, Option.bind_some, Option.bind_none, id_eq, if_true, if_false, Bool.false_eq_true, Bool.not_true, Bool.not_false, Bool.bne_false, Bool.bne_true, reduceIte, Bool.true_bne, Bool.false_bne, and_true, true_and, fnW, oCall]
  refine i_list_with_text hb h1 hl ?_
  simp only [sSeq, sNext, sRet, sRetN, sRetV, sSet, sIf, sDrop, sTgt, sPar, sNever, wTmps, setAll, sFor, gNm, IL.gTup, gEach, tTrue, tTru, tOf, tNotW, tAndW, tOrW, oAnd, oOr, oNotT, oIf, oChain, oTup, oLst, wArgs, oPrim, withOps, evOps, Opd.ev, oC, oVar, oSl, partEv, oMeth, isStrPV, oComp, oComp2, iSeq, iRange1, iRange2, rgW, oDict0, lift1, lift2, Opr.rd, rdAll, e_rl, Option.map_some, Option.map_none, e_pv, e_po, e_tb, e_ti, e_tn, e_tl, e_tt, e_add, e_addS, e_addL, e_addT, e_sub, e_mul, e_mod, e_fdiv, e_pow, e_neg, e_lt, e_le, e_gt, e_ge, e_eqI, e_lenT, e_lenL, e_lenS, e_lenR, e_tupL, e_tupT, e_intI, e_isiI, e_isiIB, e_isiT, e_isiS, e_isN, e_isI, e_isS, e_isT, e_sqT, e_sqL, e_sqS, wipeE, IL.envOf, List.map_cons, List.map_nil, List.length_cons, List.length_nil, Nat.zero_add, Nat.reduceSub, Nat.reduceAdd, List.replicate, List.cons_append, List.nil_append, List.set_cons_zero, List.set_cons_succ, List.getElem?_cons_zero, List.getElem?_cons_succ, List.getElem?_nil, restE, Option.join, Option.bind_some, Option.bind_none, id_eq, if_true, if_false, Bool.false_eq_true, Bool.not_true, Bool.not_false, Bool.bne_false, Bool.bne_true, reduceIte, Bool.true_bne, Bool.false_bne, and_true, true_and, fnW]
  refine pEq_nil (n := 2) (.lst fun x hx => by rw [List.mem_singleton.mp hx]; exact dd_nums) (by omega) ?_
  simp only [sSeq, sNext, sRet, sRetN, sRetV, sSet, sIf, sDrop, sTgt, sPar, sNever, wTmps, setAll, sFor, gNm, IL.gTup, gEach, tTrue, tTru, tOf, tNotW, tAndW, tOrW, oAnd, oOr, oNotT, oIf, oChain, oTup, oLst, wArgs, oPrim, withOps, evOps, Opd.ev, oC, oVar, oSl, partEv, oMeth, isStrPV, oComp, oComp2, iSeq, iRange1, iRange2, rgW, oDict0, lift1, lift2, Opr.rd, rdAll, e_rl, Option.map_some, Option.map_none, e_pv, e_po, e_tb, e_ti, e_tn, e_tl, e_tt, e_add, e_addS, e_addL, e_addT, e_sub, e_mul, e_mod, e_fdiv, e_pow, e_neg, e_lt, e_le, e_gt, e_ge, e_eqI, e_lenT, e_lenL, e_lenS, e_lenR, e_tupL, e_tupT, e_intI, e_isiI, e_isiIB, e_isiT, e_isiS, e_isN, e_isI, e_isS, e_isT, e_sqT, e_sqL, e_sqS, wipeE, IL.envOf, List.map_cons, List.map_nil, List.length_cons, List.length_nil, Nat.zero_add, Nat.reduceSub, Nat.reduceAdd, List.replicate, List.cons_append, List.nil_append, List.set_cons_zero, List.set_cons_succ, List.getElem?_cons_zero, List.getElem?_cons_succ, List.getElem?_nil, restE, Option.join, Option.bind_some, Option.bind_none, id_eq, if_true, if_false, Bool.false_eq_true, Bool.not_true, Bool.not_false, Bool.bne_false, Bool.bne_true, reduceIte, Bool.true_bne, Bool.false_bne, and_true, true_and, fnW]
  exact pIx_lst0 h
end ILaw

namespace ILaw
open PySem PySem.Spec PyProof.Rows L2 IL TL
variable {Q : TV → Prop}
theorem pIx_well {j : Int} (hj : 0 ≤ j ∧ j < 3) (q : ∀ a : Int, 0 ≤ a → Q (.v (.int a))) : pIx .well (.int j) Q := ⟨hj, q⟩
theorem log_small {m : Int} (h : m.natAbs ≤ 2 ^ 64) : m.natAbs.log2 < 9000 := by
  by_cases h0 : m.natAbs = 0
  · rw [h0]; decide
  · rw [Nat.log2_lt h0]
    exact Nat.lt_of_le_of_lt h (by decide +kernel)
theorem i_take {m : Int} (h0 : 0 < m) (h1 : m ≤ 2 ^ 64) (h : ∀ r : Int, 0 ≤ r → r < m → Q (.v (.int r))) : F__law_take [.well, .int m] Q := by
  have hr : ∀ x : Int, Q (.v (.int (x % m))) := fun x => h _ (Int.emod_nonneg x (by omega)) (Int.emod_lt_of_pos x h0)
  unfold F__law_take b__law_take
  simp only [sSeq, sNext, sRet, sRetN, sRetV, sSet, sIf, sDrop, sTgt, sPar, sNever, wTmps, setAll, sFor, gNm, IL.gTup, gEach, tTrue, tTru, tOf, tNotW, tAndW, tOrW, oAnd, oOr, oNotT, oIf, oChain, oTup, oLst, wArgs, oPrim, withOps, evOps, Opd.ev, oC, oVar, oSl, partEv, oMeth, isStrPV, oComp, oComp2, iSeq, iRange1, iRange2, rgW, oDict0, lift1, lift2, Opr.rd, rdAll, e_rl, Option.map_some, Option.map_none, e_pv, e_po, e_tb, e_ti, e_tn, e_tl, e_tt, e_add, e_addS, e_addL, e_addT, e_sub, e_mul, e_mod, e_fdiv, e_pow, e_neg, e_lt, e_le, e_gt, e_ge, e_eqI, e_lenT, e_lenL, e_lenS, e_lenR, e_tupL, e_tupT, e_intI, e_isiI, e_isiIB, e_isiT, e_isiS, e_isN, e_isI, e_isS, e_isT, e_sqT, e_sqL, e_sqS, wipeE, IL.envOf, List.map_cons, List.map_nil, List.length_cons, List.length_nil, Nat.zero_add, Nat.reduceSub, Nat.reduceAdd, List.replicate, List.cons_append, List.nil_append, List.set_cons_zero, List.set_cons_succ, List.getElem?_cons_zero, List.getElem?_cons_succ, List.getElem?_nil, restE, Option.join, Option.bind_some, Option.bind_none, id_eq, if_true, if_false, Bool.false_eq_true, Bool.not_true, Bool.not_false, Bool.bne_false, Bool.bne_true, reduceIte, Bool.true_bne, Bool.false_bne, and_true, true_and, fnW]
  refine pIx_well (by omega) fun a ha => ?_
  simp only [sSeq, sNext, sRet, sRetN, sRetV, sSet, sIf, sDrop, sTgt, sPar, sNever, wTmps, setAll, sFor, gNm, IL.gTup, gEach, tTrue, tTru, tOf, tNotW, tAndW, tOrW, oAnd, oOr, oNotT, oIf, oChain, oTup, oLst, wArgs, oPrim, withOps, evOps, Opd.ev, oC, oVar, oSl, partEv, oMeth, isStrPV, oComp, oComp2, iSeq, iRange1, iRange2, rgW, oDict0, lift1, lift2, Opr.rd, rdAll, e_rl, Option.map_some, Option.map_none, e_pv, e_po, e_tb, e_ti, e_tn, e_tl, e_tt, e_add, e_addS, e_addL, e_addT, e_sub, e_mul, e_mod, e_fdiv, e_pow, e_neg, e_lt, e_le, e_gt, e_ge, e_eqI, e_lenT, e_lenL, e_lenS, e_lenR, e_tupL, e_tupT, e_intI, e_isiI, e_isiIB, e_isiT, e_isiS, e_isN, e_isI, e_isS, e_isT, e_sqT, e_sqL, e_sqS, wipeE, IL.envOf, List.map_cons, List.map_nil, List.length_cons, List.length_nil, Nat.zero_add, Nat.reduceSub, Nat.reduceAdd, List.replicate, List.cons_append, List.nil_append, List.set_cons_zero, List.set_cons_succ, List.getElem?_cons_zero, List.getElem?_cons_succ, List.getElem?_nil, restE, Option.join, Option.bind_some, Option.bind_none, id_eq, if_true, if_false, Bool.false_eq_true, Bool.not_true, Bool.not_false, Bool.bne_false, Bool.bne_true, reduceIte, Bool.true_bne, Bool.false_bne, and_true, true_and, fnW]
  by_cases hp : 0 < a
  · rw [if_pos (decide_eq_true hp)]
    refine pIx_well (by omega) fun a ha => ?_
    simp only [sSeq, sNext, sRet, sRetN, sRetV, sSet, sIf, sDrop, sTgt, sPar, sNever, wTmps, setAll, sFor, gNm, IL.gTup, gEach, tTrue, tTru, tOf, tNotW, tAndW, tOrW, oAnd, oOr, oNotT, oIf, oChain, oTup, oLst, wArgs, oPrim, withOps, evOps, Opd.ev, oC, oVar, oSl, partEv, oMeth, isStrPV, oComp, oComp2, iSeq, iRange1, iRange2, rgW, oDict0, lift1, lift2, Opr.rd, rdAll, e_rl, Option.map_some, Option.map_none, e_pv, e_po, e_tb, e_ti, e_tn, e_tl, e_tt, e_add, e_addS, e_addL, e_addT, e_sub, e_mul, e_mod, e_fdiv, e_pow, e_neg, e_lt, e_le, e_gt, e_ge, e_eqI, e_lenT, e_lenL, e_lenS, e_lenR, e_tupL, e_tupT, e_intI, e_isiI, e_isiIB, e_isiT, e_isiS, e_isN, e_isI, e_isS, e_isT, e_sqT, e_sqL, e_sqS, wipeE, IL.envOf, List.map_cons, List.map_nil, List.length_cons, List.length_nil, Nat.zero_add, Nat.reduceSub, Nat.reduceAdd, List.replicate, List.cons_append, List.nil_append, List.set_cons_zero, List.set_cons_succ, List.getElem?_cons_zero, List.getElem?_cons_succ, List.getElem?_nil, restE, Option.join, Option.bind_some, Option.bind_none, id_eq, if_true, if_false, Bool.false_eq_true, Bool.not_true, Bool.not_false, Bool.bne_false, Bool.bne_true, reduceIte, Bool.true_bne, Bool.false_bne, and_true, true_and, fnW]
    refine ⟨⟨h0, log_small (by omega)⟩, ?_⟩
    refine ⟨rfl, rfl, by omega, Int.ediv_nonneg ha (by omega), ?_⟩
    exact hr a
  · rw [if_neg (by simpa using hp)]
    refine pIx_well (by omega) fun a ha => ?_
    simp only [sSeq, sNext, sRet, sRetN, sRetV, sSet, sIf, sDrop, sTgt, sPar, sNever, wTmps, setAll, sFor, gNm, IL.gTup, gEach, tTrue, tTru, tOf, tNotW, tAndW, tOrW, oAnd, oOr, oNotT, oIf, oChain, oTup, oLst, wArgs, oPrim, withOps, evOps, Opd.ev, oC, oVar, oSl, partEv, oMeth, isStrPV, oComp, oComp2, iSeq, iRange1, iRange2, rgW, oDict0, lift1, lift2, Opr.rd, rdAll, e_rl, Option.map_some, Option.map_none, e_pv, e_po, e_tb, e_ti, e_tn, e_tl, e_tt, e_add, e_addS, e_addL, e_addT, e_sub, e_mul, e_mod, e_fdiv, e_pow, e_neg, e_lt, e_le, e_gt, e_ge, e_eqI, e_lenT, e_lenL, e_lenS, e_lenR, e_tupL, e_tupT, e_intI, e_isiI, e_isiIB, e_isiT, e_isiS, e_isN, e_isI, e_isS, e_isT, e_sqT, e_sqL, e_sqS, wipeE, IL.envOf, List.map_cons, List.map_nil, List.length_cons, List.length_nil, Nat.zero_add, Nat.reduceSub, Nat.reduceAdd, List.replicate, List.cons_append, List.nil_append, List.set_cons_zero, List.set_cons_succ, List.getElem?_cons_zero, List.getElem?_cons_succ, List.getElem?_nil, restE, Option.join, Option.bind_some, Option.bind_none, id_eq, if_true, if_false, Bool.false_eq_true, Bool.not_true, Bool.not_false, Bool.bne_false, Bool.bne_true, reduceIte, Bool.true_bne, Bool.false_bne, and_true, true_and, fnW]
    refine ⟨rfl, by omega, by omega, ?_⟩
    refine pIx_well (by omega) fun b hb => ?_
    simp only [sSeq, sNext, sRet, sRetN, sRetV, sSet, sIf, sDrop, sTgt, sPar, sNever, wTmps, setAll, sFor, gNm, IL.gTup, gEach, tTrue, tTru, tOf, tNotW, tAndW, tOrW, oAnd, oOr, oNotT, oIf, oChain, oTup, oLst, wArgs, oPrim, withOps, evOps, Opd.ev, oC, oVar, oSl, partEv, oMeth, isStrPV, oComp, oComp2, iSeq, iRange1, iRange2, rgW, oDict0, lift1, lift2, Opr.rd, rdAll, e_rl, Option.map_some, Option.map_none, e_pv, e_po, e_tb, e_ti, e_tn, e_tl, e_tt, e_add, e_addS, e_addL, e_addT, e_sub, e_mul, e_mod, e_fdiv, e_pow, e_neg, e_lt, e_le, e_gt, e_ge, e_eqI, e_lenT, e_lenL, e_lenS, e_lenR, e_tupL, e_tupT, e_intI, e_isiI, e_isiIB, e_isiT, e_isiS, e_isN, e_isI, e_isS, e_isT, e_sqT, e_sqL, e_sqS, wipeE, IL.envOf, List.map_cons, List.map_nil, List.length_cons, List.length_nil, Nat.zero_add, Nat.reduceSub, Nat.reduceAdd, List.replicate, List.cons_append, List.nil_append, List.set_cons_zero, List.set_cons_succ, List.getElem?_cons_zero, List.getElem?_cons_succ, List.getElem?_nil, restE, Option.join, Option.bind_some, Option.bind_none, id_eq, if_true, if_false, Bool.false_eq_true, Bool.not_true, Bool.not_false, Bool.bne_false, Bool.bne_true, reduceIte, Bool.true_bne, Bool.false_bne, and_true, true_and, fnW]
    refine ⟨.inr (.inr ⟨by omega, by omega⟩), ?_⟩
    refine pIx_well (by omega) fun c hc => ?_
    simp only [sSeq, sNext, sRet, sRetN, sRetV, sSet, sIf, sDrop, sTgt, sPar, sNever, wTmps, setAll, sFor, gNm, IL.gTup, gEach, tTrue, tTru, tOf, tNotW, tAndW, tOrW, oAnd, oOr, oNotT, oIf, oChain, oTup, oLst, wArgs, oPrim, withOps, evOps, Opd.ev, oC, oVar, oSl, partEv, oMeth, isStrPV, oComp, oComp2, iSeq, iRange1, iRange2, rgW, oDict0, lift1, lift2, Opr.rd, rdAll, e_rl, Option.map_some, Option.map_none, e_pv, e_po, e_tb, e_ti, e_tn, e_tl, e_tt, e_add, e_addS, e_addL, e_addT, e_sub, e_mul, e_mod, e_fdiv, e_pow, e_neg, e_lt, e_le, e_gt, e_ge, e_eqI, e_lenT, e_lenL, e_lenS, e_lenR, e_tupL, e_tupT, e_intI, e_isiI, e_isiIB, e_isiT, e_isiS, e_isN, e_isI, e_isS, e_isT, e_sqT, e_sqL, e_sqS, wipeE, IL.envOf, List.map_cons, List.map_nil, List.length_cons, List.length_nil, Nat.zero_add, Nat.reduceSub, Nat.reduceAdd, List.replicate, List.cons_append, List.nil_append, List.set_cons_zero, List.set_cons_succ, List.getElem?_cons_zero, List.getElem?_cons_succ, List.getElem?_nil, restE, Option.join, Option.bind_some, Option.bind_none, id_eq, if_true, if_false, Bool.false_eq_true, Bool.not_true, Bool.not_false, Bool.bne_false, Bool.bne_true, reduceIte, Bool.true_bne, Bool.false_bne, and_true, true_and, fnW]
    refine ⟨.inr (.inr ⟨by omega, by omega⟩), by omega, ?_⟩
    refine ⟨rfl, by omega, Int.emod_nonneg _ (by omega), ?_⟩
    refine pIx_well (by omega) fun d hd => ?_
    simp only [sSeq, sNext, sRet, sRetN, sRetV, sSet, sIf, sDrop, sTgt, sPar, sNever, wTmps, setAll, sFor, gNm, IL.gTup, gEach, tTrue, tTru, tOf, tNotW, tAndW, tOrW, oAnd, oOr, oNotT, oIf, oChain, oTup, oLst, wArgs, oPrim, withOps, evOps, Opd.ev, oC, oVar, oSl, partEv, oMeth, isStrPV, oComp, oComp2, iSeq, iRange1, iRange2, rgW, oDict0, lift1, lift2, Opr.rd, rdAll, e_rl, Option.map_some, Option.map_none, e_pv, e_po, e_tb, e_ti, e_tn, e_tl, e_tt, e_add, e_addS, e_addL, e_addT, e_sub, e_mul, e_mod, e_fdiv, e_pow, e_neg, e_lt, e_le, e_gt, e_ge, e_eqI, e_lenT, e_lenL, e_lenS, e_lenR, e_tupL, e_tupT, e_intI, e_isiI, e_isiIB, e_isiT, e_isiS, e_isN, e_isI, e_isS, e_isT, e_sqT, e_sqL, e_sqS, wipeE, IL.envOf, List.map_cons, List.map_nil, List.length_cons, List.length_nil, Nat.zero_add, Nat.reduceSub, Nat.reduceAdd, List.replicate, List.cons_append, List.nil_append, List.set_cons_zero, List.set_cons_succ, List.getElem?_cons_zero, List.getElem?_cons_succ, List.getElem?_nil, restE, Option.join, Option.bind_some, Option.bind_none, id_eq, if_true, if_false, Bool.false_eq_true, Bool.not_true, Bool.not_false, Bool.bne_false, Bool.bne_true, reduceIte, Bool.true_bne, Bool.false_bne, and_true, true_and, fnW]
    exact ⟨⟨by omega, by decide +kernel⟩, h0, hr _⟩
theorem pInt_i {i : Int} (q : Q (.v (.int i))) : pInt (.int i) Q := q
theorem pIx_scr {ns : List Int} {j n : Int} (e : atI ns j = some n) (q : Q (.v (.int n))) : pIx (.scr ns) (.int j) Q := by
  show match atI ns j with | some y => Q (.v (.int y)) | none => False
  rw [e]
  exact q
theorem i_law_well {ns : List Int} {lap : Int} (hl : 0 ≤ lap) (hn : ns.length ≤ 63) (h : Q (.v .well)) : S__law_well [.scr ns, .int lap] Q := by
  have hc : ∀ x ∈ cutPV (ns.map PV.int) none (some 8), ∃ n : Int, x = .int n := fun x hx => by
    have h1 := List.mem_of_mem_drop (List.mem_of_mem_take hx)
    obtain ⟨n, _, rfl⟩ := List.mem_map.mp h1
    exact ⟨n, rfl⟩
  have hcl : (cutPV (ns.map PV.int) none (some 8)).length ≤ 63 := by
    unfold cutPV
    rw [List.length_take, List.length_drop, List.length_map]
    omega
  unfold S__law_well wellOf F__law_well b__law_well
  simp only [sSeq, sNext, sRet, sRetN, sRetV, sSet, sIf, sDrop, sTgt, sPar, sNever, wTmps, setAll, sFor, gNm, IL.gTup, gEach, tTrue, tTru, tOf, tNotW, tAndW, tOrW, oAnd, oOr, oNotT, oIf, oChain, oTup, oLst, wArgs, oPrim, withOps, evOps, Opd.ev, oC, oVar, oSl, partEv, oMeth, isStrPV, oComp, oComp2, iSeq, iRange1, iRange2, rgW, oDict0, lift1, lift2, Opr.rd, rdAll, e_rl, Option.map_some, Option.map_none, e_pv, e_po, e_tb, e_ti, e_tn, e_tl, e_tt, e_add, e_addS, e_addL, e_addT, e_sub, e_mul, e_mod, e_fdiv, e_pow, e_neg, e_lt, e_le, e_gt, e_ge, e_eqI, e_lenT, e_lenL, e_lenS, e_lenR, e_tupL, e_tupT, e_intI, e_isiI, e_isiIB, e_isiT, e_isiS, e_isN, e_isI, e_isS, e_isT, e_sqT, e_sqL, e_sqS, wipeE, IL.envOf, List.map_cons, List.map_nil, List.length_cons, List.length_nil, Nat.zero_add, Nat.reduceSub, Nat.reduceAdd, List.replicate, List.cons_append, List.nil_append, List.set_cons_zero, List.set_cons_succ, List.getElem?_cons_zero, List.getElem?_cons_succ, List.getElem?_nil, restE, Option.join, Option.bind_some, Option.bind_none, id_eq, if_true, if_false, Bool.false_eq_true, Bool.not_true, Bool.not_false, Bool.bne_false, Bool.bne_true, reduceIte, Bool.true_bne, Bool.false_bne, and_true, true_and, fnW]
  by_cases hp : lap < (ns.length : Int)
  · rw [if_pos (decide_eq_true hp)]
    obtain ⟨j, rfl⟩ := Int.eq_ofNat_of_zero_le hl
    refine pIx_scr (atI_nat (j := j) (by omega)) ?_
    refine pInt_i ?_
    simp only [sSeq, sNext, sRet, sRetN, sRetV, sSet, sIf, sDrop, sTgt, sPar, sNever, wTmps, setAll, sFor, gNm, IL.gTup, gEach, tTrue, tTru, tOf, tNotW, tAndW, tOrW, oAnd, oOr, oNotT, oIf, oChain, oTup, oLst, wArgs, oPrim, withOps, evOps, Opd.ev, oC, oVar, oSl, partEv, oMeth, isStrPV, oComp, oComp2, iSeq, iRange1, iRange2, rgW, oDict0, lift1, lift2, Opr.rd, rdAll, e_rl, Option.map_some, Option.map_none, e_pv, e_po, e_tb, e_ti, e_tn, e_tl, e_tt, e_add, e_addS, e_addL, e_addT, e_sub, e_mul, e_mod, e_fdiv, e_pow, e_neg, e_lt, e_le, e_gt, e_ge, e_eqI, e_lenT, e_lenL, e_lenS, e_lenR, e_tupL, e_tupT, e_intI, e_isiI, e_isiIB, e_isiT, e_isiS, e_isN, e_isI, e_isS, e_isT, e_sqT, e_sqL, e_sqS, wipeE, IL.envOf, List.map_cons, List.map_nil, List.length_cons, List.length_nil, Nat.zero_add, Nat.reduceSub, Nat.reduceAdd, List.replicate, List.cons_append, List.nil_append, List.set_cons_zero, List.set_cons_succ, List.getElem?_cons_zero, List.getElem?_cons_succ, List.getElem?_nil, restE, Option.join, Option.bind_some, Option.bind_none, id_eq, if_true, if_false, Bool.false_eq_true, Bool.not_true, Bool.not_false, Bool.bne_false, Bool.bne_true, reduceIte, Bool.true_bne, Bool.false_bne, and_true, true_and, fnW]
    generalize ns[j] = own
    refine ⟨.inr (.inl ⟨by omega, by omega⟩), size_le (by omega), ?_⟩
    simp only [sSeq, sNext, sRet, sRetN, sRetV, sSet, sIf, sDrop, sTgt, sPar, sNever, wTmps, setAll, sFor, gNm, IL.gTup, gEach, tTrue, tTru, tOf, tNotW, tAndW, tOrW, oAnd, oOr, oNotT, oIf, oChain, oTup, oLst, wArgs, oPrim, withOps, evOps, Opd.ev, oC, oVar, oSl, partEv, oMeth, isStrPV, oComp, oComp2, iSeq, iRange1, iRange2, rgW, oDict0, lift1, lift2, Opr.rd, rdAll, e_rl, Option.map_some, Option.map_none, e_pv, e_po, e_tb, e_ti, e_tn, e_tl, e_tt, e_add, e_addS, e_addL, e_addT, e_sub, e_mul, e_mod, e_fdiv, e_pow, e_neg, e_lt, e_le, e_gt, e_ge, e_eqI, e_lenT, e_lenL, e_lenS, e_lenR, e_tupL, e_tupT, e_intI, e_isiI, e_isiIB, e_isiT, e_isiS, e_isN, e_isI, e_isS, e_isT, e_sqT, e_sqL, e_sqS, wipeE, IL.envOf, List.map_cons, List.map_nil, List.length_cons, List.length_nil, Nat.zero_add, Nat.reduceSub, Nat.reduceAdd, List.replicate, List.cons_append, List.nil_append, List.set_cons_zero, List.set_cons_succ, List.getElem?_cons_zero, List.getElem?_cons_succ, List.getElem?_nil, restE, Option.join, Option.bind_some, Option.bind_none, id_eq, if_true, if_false, Bool.false_eq_true, Bool.not_true, Bool.not_false, Bool.bne_false, Bool.bne_true, reduceIte, Bool.true_bne, Bool.false_bne, and_true, true_and, fnW]
    refine ⟨size_le (by omega), ?_⟩
    refine wFor_inv (fun xs e => (∀ x ∈ xs, ∃ n : Int, x = .int n) ∧ ∃ (stir : Int) (e4 : Option TV), 0 ≤ stir ∧ e = [some (.v (.scr ns)), some (.v (.int (j : Int))), some (.v (.int own)), some (.v (.int stir)), e4]) (fun e ⟨_, stir, e4, h0, he⟩ => ?_) ⟨fun x hx => ?_, 52027 + 6971 * (j : Int), none, by omega, rfl⟩ (fun x xs e ⟨hx, stir, e4, h0, he⟩ K hK => ?_)
    · subst he
      simp only [sSeq, sNext, sRet, sRetN, sRetV, sSet, sIf, sDrop, sTgt, sPar, sNever, wTmps, setAll, sFor, gNm, IL.gTup, gEach, tTrue, tTru, tOf, tNotW, tAndW, tOrW, oAnd, oOr, oNotT, oIf, oChain, oTup, oLst, wArgs, oPrim, withOps, evOps, Opd.ev, oC, oVar, oSl, partEv, oMeth, isStrPV, oComp, oComp2, iSeq, iRange1, iRange2, rgW, oDict0, lift1, lift2, Opr.rd, rdAll, e_rl, Option.map_some, Option.map_none, e_pv, e_po, e_tb, e_ti, e_tn, e_tl, e_tt, e_add, e_addS, e_addL, e_addT, e_sub, e_mul, e_mod, e_fdiv, e_pow, e_neg, e_lt, e_le, e_gt, e_ge, e_eqI, e_lenT, e_lenL, e_lenS, e_lenR, e_tupL, e_tupT, e_intI, e_isiI, e_isiIB, e_isiT, e_isiS, e_isN, e_isI, e_isS, e_isT, e_sqT, e_sqL, e_sqS, wipeE, IL.envOf, List.map_cons, List.map_nil, List.length_cons, List.length_nil, Nat.zero_add, Nat.reduceSub, Nat.reduceAdd, List.replicate, List.cons_append, List.nil_append, List.set_cons_zero, List.set_cons_succ, List.getElem?_cons_zero, List.getElem?_cons_succ, List.getElem?_nil, restE, Option.join, Option.bind_some, Option.bind_none, id_eq, if_true, if_false, Bool.false_eq_true, Bool.not_true, Bool.not_false, Bool.bne_false, Bool.bne_true, reduceIte, Bool.true_bne, Bool.false_bne, and_true, true_and, fnW]
      by_cases hneg : (own : Int) < 0
      · rw [if_pos (decide_eq_true hneg)]
        exact ⟨if (own : Int) < 0 then -own else own, stir, 0, by split <;> omega, h0, by omega, rfl, h⟩
      · rw [if_neg (by simpa using hneg)]
        refine ⟨⟨by decide, by decide, by decide +kernel⟩, ?_⟩
        by_cases hbig : (10 : Int) ^ Int.toNat 18 ≤ own
        · rw [if_pos (decide_eq_true hbig)]
          exact ⟨if (own : Int) < 0 then -own else own, stir, 0, by split <;> omega, h0, by omega, rfl, h⟩
        · rw [if_neg (by simpa using hbig)]
          exact ⟨0, _, 0, by omega, h0, by omega, rfl, h⟩
    · rcases List.mem_append.mp hx with hx | hx
      · exact hc x hx
      · exact ⟨_, List.mem_singleton.mp hx⟩
    · subst he
      obtain ⟨n, rfl⟩ := hx x List.mem_cons_self
      simp only [sSeq, sNext, sRet, sRetN, sRetV, sSet, sIf, sDrop, sTgt, sPar, sNever, wTmps, setAll, sFor, gNm, IL.gTup, gEach, tTrue, tTru, tOf, tNotW, tAndW, tOrW, oAnd, oOr, oNotT, oIf, oChain, oTup, oLst, wArgs, oPrim, withOps, evOps, Opd.ev, oC, oVar, oSl, partEv, oMeth, isStrPV, oComp, oComp2, iSeq, iRange1, iRange2, rgW, oDict0, lift1, lift2, Opr.rd, rdAll, e_rl, Option.map_some, Option.map_none, e_pv, e_po, e_tb, e_ti, e_tn, e_tl, e_tt, e_add, e_addS, e_addL, e_addT, e_sub, e_mul, e_mod, e_fdiv, e_pow, e_neg, e_lt, e_le, e_gt, e_ge, e_eqI, e_lenT, e_lenL, e_lenS, e_lenR, e_tupL, e_tupT, e_intI, e_isiI, e_isiIB, e_isiT, e_isiS, e_isN, e_isI, e_isS, e_isT, e_sqT, e_sqL, e_sqS, wipeE, IL.envOf, List.map_cons, List.map_nil, List.length_cons, List.length_nil, Nat.zero_add, Nat.reduceSub, Nat.reduceAdd, List.replicate, List.cons_append, List.nil_append, List.set_cons_zero, List.set_cons_succ, List.getElem?_cons_zero, List.getElem?_cons_succ, List.getElem?_nil, restE, Option.join, Option.bind_some, Option.bind_none, id_eq, if_true, if_false, Bool.false_eq_true, Bool.not_true, Bool.not_false, Bool.bne_false, Bool.bne_true, reduceIte, Bool.true_bne, Bool.false_bne, and_true, true_and, fnW]
      refine ⟨.inr (.inr ⟨by omega, by omega⟩), by omega, by omega, ?_⟩
      exact hK _ ⟨fun y hy => hx y (List.mem_cons_of_mem _ hy), _, _, Int.emod_nonneg _ (by omega), rfl⟩
  · rw [if_neg (by simpa using hp)]
    refine ⟨.inr (.inl ⟨by omega, by omega⟩), size_le (by omega), ?_⟩
    simp only [sSeq, sNext, sRet, sRetN, sRetV, sSet, sIf, sDrop, sTgt, sPar, sNever, wTmps, setAll, sFor, gNm, IL.gTup, gEach, tTrue, tTru, tOf, tNotW, tAndW, tOrW, oAnd, oOr, oNotT, oIf, oChain, oTup, oLst, wArgs, oPrim, withOps, evOps, Opd.ev, oC, oVar, oSl, partEv, oMeth, isStrPV, oComp, oComp2, iSeq, iRange1, iRange2, rgW, oDict0, lift1, lift2, Opr.rd, rdAll, e_rl, Option.map_some, Option.map_none, e_pv, e_po, e_tb, e_ti, e_tn, e_tl, e_tt, e_add, e_addS, e_addL, e_addT, e_sub, e_mul, e_mod, e_fdiv, e_pow, e_neg, e_lt, e_le, e_gt, e_ge, e_eqI, e_lenT, e_lenL, e_lenS, e_lenR, e_tupL, e_tupT, e_intI, e_isiI, e_isiIB, e_isiT, e_isiS, e_isN, e_isI, e_isS, e_isT, e_sqT, e_sqL, e_sqS, wipeE, IL.envOf, List.map_cons, List.map_nil, List.length_cons, List.length_nil, Nat.zero_add, Nat.reduceSub, Nat.reduceAdd, List.replicate, List.cons_append, List.nil_append, List.set_cons_zero, List.set_cons_succ, List.getElem?_cons_zero, List.getElem?_cons_succ, List.getElem?_nil, restE, Option.join, Option.bind_some, Option.bind_none, id_eq, if_true, if_false, Bool.false_eq_true, Bool.not_true, Bool.not_false, Bool.bne_false, Bool.bne_true, reduceIte, Bool.true_bne, Bool.false_bne, and_true, true_and, fnW]
    refine ⟨size_le (by omega), ?_⟩
    refine wFor_inv (fun xs e => (∀ x ∈ xs, ∃ n : Int, x = .int n) ∧ ∃ (stir : Int) (e4 : Option TV), 0 ≤ stir ∧ e = [some (.v (.scr ns)), some (.v (.int lap)), some (.v (.int 0)), some (.v (.int stir)), e4]) (fun e ⟨_, stir, e4, h0, he⟩ => ?_) ⟨fun x hx => ?_, 52027 + 6971 * lap, none, by omega, rfl⟩ (fun x xs e ⟨hx, stir, e4, h0, he⟩ K hK => ?_)
    · subst he
      simp only [sSeq, sNext, sRet, sRetN, sRetV, sSet, sIf, sDrop, sTgt, sPar, sNever, wTmps, setAll, sFor, gNm, IL.gTup, gEach, tTrue, tTru, tOf, tNotW, tAndW, tOrW, oAnd, oOr, oNotT, oIf, oChain, oTup, oLst, wArgs, oPrim, withOps, evOps, Opd.ev, oC, oVar, oSl, partEv, oMeth, isStrPV, oComp, oComp2, iSeq, iRange1, iRange2, rgW, oDict0, lift1, lift2, Opr.rd, rdAll, e_rl, Option.map_some, Option.map_none, e_pv, e_po, e_tb, e_ti, e_tn, e_tl, e_tt, e_add, e_addS, e_addL, e_addT, e_sub, e_mul, e_mod, e_fdiv, e_pow, e_neg, e_lt, e_le, e_gt, e_ge, e_eqI, e_lenT, e_lenL, e_lenS, e_lenR, e_tupL, e_tupT, e_intI, e_isiI, e_isiIB, e_isiT, e_isiS, e_isN, e_isI, e_isS, e_isT, e_sqT, e_sqL, e_sqS, wipeE, IL.envOf, List.map_cons, List.map_nil, List.length_cons, List.length_nil, Nat.zero_add, Nat.reduceSub, Nat.reduceAdd, List.replicate, List.cons_append, List.nil_append, List.set_cons_zero, List.set_cons_succ, List.getElem?_cons_zero, List.getElem?_cons_succ, List.getElem?_nil, restE, Option.join, Option.bind_some, Option.bind_none, id_eq, if_true, if_false, Bool.false_eq_true, Bool.not_true, Bool.not_false, Bool.bne_false, Bool.bne_true, reduceIte, Bool.true_bne, Bool.false_bne, and_true, true_and, fnW]
      by_cases hneg : (0 : Int) < 0
      · rw [if_pos (decide_eq_true hneg)]
        exact ⟨if (0 : Int) < 0 then -0 else 0, stir, 0, by split <;> omega, h0, by omega, rfl, h⟩
      · rw [if_neg (by simpa using hneg)]
        refine ⟨⟨by decide, by decide, by decide +kernel⟩, ?_⟩
        by_cases hbig : (10 : Int) ^ Int.toNat 18 ≤ 0
        · rw [if_pos (decide_eq_true hbig)]
          exact ⟨if (0 : Int) < 0 then -0 else 0, stir, 0, by split <;> omega, h0, by omega, rfl, h⟩
        · rw [if_neg (by simpa using hbig)]
          exact ⟨0, _, 0, by omega, h0, by omega, rfl, h⟩
    · rcases List.mem_append.mp hx with hx | hx
      · exact hc x hx
      · exact ⟨_, List.mem_singleton.mp hx⟩
    · subst he
      obtain ⟨n, rfl⟩ := hx x List.mem_cons_self
      simp only [sSeq, sNext, sRet, sRetN, sRetV, sSet, sIf, sDrop, sTgt, sPar, sNever, wTmps, setAll, sFor, gNm, IL.gTup, gEach, tTrue, tTru, tOf, tNotW, tAndW, tOrW, oAnd, oOr, oNotT, oIf, oChain, oTup, oLst, wArgs, oPrim, withOps, evOps, Opd.ev, oC, oVar, oSl, partEv, oMeth, isStrPV, oComp, oComp2, iSeq, iRange1, iRange2, rgW, oDict0, lift1, lift2, Opr.rd, rdAll, e_rl, Option.map_some, Option.map_none, e_pv, e_po, e_tb, e_ti, e_tn, e_tl, e_tt, e_add, e_addS, e_addL, e_addT, e_sub, e_mul, e_mod, e_fdiv, e_pow, e_neg, e_lt, e_le, e_gt, e_ge, e_eqI, e_lenT, e_lenL, e_lenS, e_lenR, e_tupL, e_tupT, e_intI, e_isiI, e_isiIB, e_isiT, e_isiS, e_isN, e_isI, e_isS, e_isT, e_sqT, e_sqL, e_sqS, wipeE, IL.envOf, List.map_cons, List.map_nil, List.length_cons, List.length_nil, Nat.zero_add, Nat.reduceSub, Nat.reduceAdd, List.replicate, List.cons_append, List.nil_append, List.set_cons_zero, List.set_cons_succ, List.getElem?_cons_zero, List.getElem?_cons_succ, List.getElem?_nil, restE, Option.join, Option.bind_some, Option.bind_none, id_eq, if_true, if_false, Bool.false_eq_true, Bool.not_true, Bool.not_false, Bool.bne_false, Bool.bne_true, reduceIte, Bool.true_bne, Bool.false_bne, and_true, true_and, fnW]
      refine ⟨.inr (.inr ⟨by omega, by omega⟩), by omega, by omega, ?_⟩
      exact hK _ ⟨fun y hy => hx y (List.mem_cons_of_mem _ hy), _, _, Int.emod_nonneg _ (by omega), rfl⟩
end ILaw

namespace ILaw
open PySem PySem.Spec PyProof.Rows L2 IL TL
variable {Q : TV → Prop} {i : Int} {xs : List PV} {a : Str} {b : Bool}
theorem z_Ttuple : pIsi (.tup xs) (.ty "tuple") Q = Q (.v (.bl true)) := rfl
theorem z_Tlist : pIsi (.tup xs) (.ty "list") Q = Q (.v (.bl false)) := rfl
theorem z_Tbool : pIsi (.tup xs) (.ty "bool") Q = Q (.v (.bl false)) := rfl
theorem z_Tint : pIsi (.tup xs) (.ty "int") Q = Q (.v (.bl false)) := rfl
theorem z_Tstr : pIsi (.tup xs) (.ty "str") Q = Q (.v (.bl false)) := rfl
theorem z_Tdict : pIsi (.tup xs) (.ty "dict") Q = Q (.v (.bl false)) := rfl
theorem z_Ttl : pIsi (.tup xs) (.tup [.ty "tuple", .ty "list"]) Q = Q (.v (.bl true)) := rfl
theorem z_Ltuple : pIsi (.lst xs) (.ty "tuple") Q = Q (.v (.bl false)) := rfl
theorem z_Llist : pIsi (.lst xs) (.ty "list") Q = Q (.v (.bl true)) := rfl
theorem z_Lbool : pIsi (.lst xs) (.ty "bool") Q = Q (.v (.bl false)) := rfl
theorem z_Lint : pIsi (.lst xs) (.ty "int") Q = Q (.v (.bl false)) := rfl
theorem z_Lstr : pIsi (.lst xs) (.ty "str") Q = Q (.v (.bl false)) := rfl
theorem z_Ldict : pIsi (.lst xs) (.ty "dict") Q = Q (.v (.bl false)) := rfl
theorem z_Ltl : pIsi (.lst xs) (.tup [.ty "tuple", .ty "list"]) Q = Q (.v (.bl true)) := rfl
theorem z_Stuple : pIsi (.str a) (.ty "tuple") Q = Q (.v (.bl false)) := rfl
theorem z_Slist : pIsi (.str a) (.ty "list") Q = Q (.v (.bl false)) := rfl
theorem z_Sbool : pIsi (.str a) (.ty "bool") Q = Q (.v (.bl false)) := rfl
theorem z_Sint : pIsi (.str a) (.ty "int") Q = Q (.v (.bl false)) := rfl
theorem z_Sstr : pIsi (.str a) (.ty "str") Q = Q (.v (.bl true)) := rfl
theorem z_Sdict : pIsi (.str a) (.ty "dict") Q = Q (.v (.bl false)) := rfl
theorem z_Stl : pIsi (.str a) (.tup [.ty "tuple", .ty "list"]) Q = Q (.v (.bl false)) := rfl
theorem z_Ituple : pIsi (.int i) (.ty "tuple") Q = Q (.v (.bl false)) := rfl
theorem z_Ilist : pIsi (.int i) (.ty "list") Q = Q (.v (.bl false)) := rfl
theorem z_Ibool : pIsi (.int i) (.ty "bool") Q = Q (.v (.bl false)) := rfl
theorem z_Iint : pIsi (.int i) (.ty "int") Q = Q (.v (.bl true)) := rfl
theorem z_Istr : pIsi (.int i) (.ty "str") Q = Q (.v (.bl false)) := rfl
theorem z_Idict : pIsi (.int i) (.ty "dict") Q = Q (.v (.bl false)) := rfl
theorem z_Itl : pIsi (.int i) (.tup [.ty "tuple", .ty "list"]) Q = Q (.v (.bl false)) := rfl
theorem z_Ntuple : pIsi (.non) (.ty "tuple") Q = Q (.v (.bl false)) := rfl
theorem z_Nlist : pIsi (.non) (.ty "list") Q = Q (.v (.bl false)) := rfl
theorem z_Nbool : pIsi (.non) (.ty "bool") Q = Q (.v (.bl false)) := rfl
theorem z_Nint : pIsi (.non) (.ty "int") Q = Q (.v (.bl false)) := rfl
theorem z_Nstr : pIsi (.non) (.ty "str") Q = Q (.v (.bl false)) := rfl
theorem z_Ndict : pIsi (.non) (.ty "dict") Q = Q (.v (.bl false)) := rfl
theorem z_Ntl : pIsi (.non) (.tup [.ty "tuple", .ty "list"]) Q = Q (.v (.bl false)) := rfl
theorem z_Btuple : pIsi (.bl b) (.ty "tuple") Q = Q (.v (.bl false)) := rfl
theorem z_Blist : pIsi (.bl b) (.ty "list") Q = Q (.v (.bl false)) := rfl
theorem z_Bbool : pIsi (.bl b) (.ty "bool") Q = Q (.v (.bl true)) := rfl
theorem z_Bint : pIsi (.bl b) (.ty "int") Q = Q (.v (.bl true)) := rfl
theorem z_Bstr : pIsi (.bl b) (.ty "str") Q = Q (.v (.bl false)) := rfl
theorem z_Bdict : pIsi (.bl b) (.ty "dict") Q = Q (.v (.bl false)) := rfl
theorem z_Btl : pIsi (.bl b) (.tup [.ty "tuple", .ty "list"]) Q = Q (.v (.bl false)) := rfl
theorem z_Tistrue : pIs true (.tup xs) .non Q = Q (.v (.bl true)) := rfl
theorem z_Tisfalse : pIs false (.tup xs) .non Q = Q (.v (.bl false)) := rfl
theorem z_Listrue : pIs true (.lst xs) .non Q = Q (.v (.bl true)) := rfl
theorem z_Lisfalse : pIs false (.lst xs) .non Q = Q (.v (.bl false)) := rfl
theorem z_Sistrue : pIs true (.str a) .non Q = Q (.v (.bl true)) := rfl
theorem z_Sisfalse : pIs false (.str a) .non Q = Q (.v (.bl false)) := rfl
theorem z_Iistrue : pIs true (.int i) .non Q = Q (.v (.bl true)) := rfl
theorem z_Iisfalse : pIs false (.int i) .non Q = Q (.v (.bl false)) := rfl
theorem z_Nistrue : pIs true (.non) .non Q = Q (.v (.bl false)) := rfl
theorem z_Nisfalse : pIs false (.non) .non Q = Q (.v (.bl true)) := rfl
theorem z_Bistrue : pIs true (.bl b) .non Q = Q (.v (.bl true)) := rfl
theorem z_Bisfalse : pIs false (.bl b) .non Q = Q (.v (.bl false)) := rfl
/-- data, each part of at most 1000 -/
inductive DS : Nat → PV → Prop
  | int (n : Nat) (i : Int) : DS n (.int i)
  | str (n : Nat) {z : Str} (h : PyData.strOk z = true) : DS n (.str z)
  | tup {n : Nat} {xs : List PV} (hl : xs.length ≤ 1000) (h : ∀ x ∈ xs, DS n x) : DS (n + 1) (.tup xs)
  | lst {n : Nat} {xs : List PV} (hl : xs.length ≤ 1000) (h : ∀ x ∈ xs, DS n x) : DS (n + 1) (.lst xs)
theorem pIx_tupN {xs : List PV} {j : Nat} (h : j < xs.length) (q : Q (.v xs[j])) : pIx (.tup xs) (.int j) Q := pIx_tup (atI_nat h) q
theorem pIx_lstN {xs : List PV} {j : Nat} (h : j < xs.length) (q : Q (.v xs[j])) : pIx (.lst xs) (.int j) Q := pIx_lst (atI_nat h) q
theorem i_law_same {n : Nat} {x : PV} (h : DS n x) : ∀ {Q : TV → Prop}, Q (.v (.bl true)) → F__law_same (n + 1) [x, x] Q := by
  induction h with
  | int n i =>
    intro Q q
    unfold F__law_same b__law_same
    simp only [sSeq, sNext, sRet, sRetN, sRetV, sSet, sIf, sDrop, sTgt, sPar, sNever, wTmps, setAll, sFor, gNm, IL.gTup, gEach, tTrue, tTru, tOf, tNotW, tAndW, tOrW, oAnd, oOr, oNotT, oIf, oChain, oTup, oLst, wArgs, oPrim, withOps, evOps, Opd.ev, oC, oVar, oSl, partEv, oMeth, isStrPV, oComp, oComp2, iSeq, iRange1, iRange2, rgW, oDict0, lift1, lift2, Opr.rd, rdAll, e_rl, Option.map_some, Option.map_none, e_pv, e_po, e_tb, e_ti, e_tn, e_tl, e_tt, e_add, e_addS, e_addL, e_addT, e_sub, e_mul, e_mod, e_fdiv, e_pow, e_neg, e_lt, e_le, e_gt, e_ge, e_eqI, e_lenT, e_lenL, e_lenS, e_lenR, e_tupL, e_tupT, e_intI, e_isiI, e_isiIB, e_isiT, e_isiS, e_isN, e_isI, e_isS, e_isT, e_sqT, e_sqL, e_sqS, wipeE, IL.envOf, List.map_cons, List.map_nil, List.length_cons, List.length_nil, Nat.zero_add, Nat.reduceSub, Nat.reduceAdd, List.replicate, List.cons_append, List.nil_append, List.set_cons_zero, List.set_cons_succ, List.getElem?_cons_zero, List.getElem?_cons_succ, List.getElem?_nil, restE, Option.join, Option.bind_some, Option.bind_none, id_eq, if_true, if_false, Bool.false_eq_true, Bool.not_true, Bool.not_false, Bool.bne_false, Bool.bne_true, reduceIte, Bool.true_bne, Bool.false_bne, and_true, true_and, fnW, z_Ttuple, z_Tlist, z_Tbool, z_Tint, z_Tstr, z_Tdict, z_Ttl, z_Ltuple, z_Llist, z_Lbool, z_Lint, z_Lstr, z_Ldict, z_Ltl, z_Stuple, z_Slist, z_Sbool, z_Sint, z_Sstr, z_Sdict, z_Stl, z_Ituple, z_Ilist, z_Ibool, z_Iint, z_Istr, z_Idict, z_Itl, z_Ntuple, z_Nlist, z_Nbool, z_Nint, z_Nstr, z_Ndict, z_Ntl, z_Btuple, z_Blist, z_Bbool, z_Bint, z_Bstr, z_Bdict, z_Btl, z_Tistrue, z_Tisfalse, z_Listrue, z_Lisfalse, z_Sistrue, z_Sisfalse, z_Iistrue, z_Iisfalse, z_Nistrue, z_Nisfalse, z_Bistrue, z_Bisfalse]
    simpa using q
  | str n hz =>
    intro Q q
    unfold F__law_same b__law_same
    simp only [sSeq, sNext, sRet, sRetN, sRetV, sSet, sIf, sDrop, sTgt, sPar, sNever, wTmps, setAll, sFor, gNm, IL.gTup, gEach, tTrue, tTru, tOf, tNotW, tAndW, tOrW, oAnd, oOr, oNotT, oIf, oChain, oTup, oLst, wArgs, oPrim, withOps, evOps, Opd.ev, oC, oVar, oSl, partEv, oMeth, isStrPV, oComp, oComp2, iSeq, iRange1, iRange2, rgW, oDict0, lift1, lift2, Opr.rd, rdAll, e_rl, Option.map_some, Option.map_none, e_pv, e_po, e_tb, e_ti, e_tn, e_tl, e_tt, e_add, e_addS, e_addL, e_addT, e_sub, e_mul, e_mod, e_fdiv, e_pow, e_neg, e_lt, e_le, e_gt, e_ge, e_eqI, e_lenT, e_lenL, e_lenS, e_lenR, e_tupL, e_tupT, e_intI, e_isiI, e_isiIB, e_isiT, e_isiS, e_isN, e_isI, e_isS, e_isT, e_sqT, e_sqL, e_sqS, wipeE, IL.envOf, List.map_cons, List.map_nil, List.length_cons, List.length_nil, Nat.zero_add, Nat.reduceSub, Nat.reduceAdd, List.replicate, List.cons_append, List.nil_append, List.set_cons_zero, List.set_cons_succ, List.getElem?_cons_zero, List.getElem?_cons_succ, List.getElem?_nil, restE, Option.join, Option.bind_some, Option.bind_none, id_eq, if_true, if_false, Bool.false_eq_true, Bool.not_true, Bool.not_false, Bool.bne_false, Bool.bne_true, reduceIte, Bool.true_bne, Bool.false_bne, and_true, true_and, fnW, z_Ttuple, z_Tlist, z_Tbool, z_Tint, z_Tstr, z_Tdict, z_Ttl, z_Ltuple, z_Llist, z_Lbool, z_Lint, z_Lstr, z_Ldict, z_Ltl, z_Stuple, z_Slist, z_Sbool, z_Sint, z_Sstr, z_Sdict, z_Stl, z_Ituple, z_Ilist, z_Ibool, z_Iint, z_Istr, z_Idict, z_Itl, z_Ntuple, z_Nlist, z_Nbool, z_Nint, z_Nstr, z_Ndict, z_Ntl, z_Btuple, z_Blist, z_Bbool, z_Bint, z_Bstr, z_Bdict, z_Btl, z_Tistrue, z_Tisfalse, z_Listrue, z_Lisfalse, z_Sistrue, z_Sisfalse, z_Iistrue, z_Iisfalse, z_Nistrue, z_Nisfalse, z_Bistrue, z_Bisfalse]
    refine pEq_str hz hz ?_
    rw [beq_self_eq_true]
    exact q
  | @tup n xs hl h ih =>
    intro Q q
    unfold F__law_same b__law_same
    simp only [sSeq, sNext, sRet, sRetN, sRetV, sSet, sIf, sDrop, sTgt, sPar, sNever, wTmps, setAll, sFor, gNm, IL.gTup, gEach, tTrue, tTru, tOf, tNotW, tAndW, tOrW, oAnd, oOr, oNotT, oIf, oChain, oTup, oLst, wArgs, oPrim, withOps, evOps, Opd.ev, oC, oVar, oSl, partEv, oMeth, isStrPV, oComp, oComp2, iSeq, iRange1, iRange2, rgW, oDict0, lift1, lift2, Opr.rd, rdAll, e_rl, Option.map_some, Option.map_none, e_pv, e_po, e_tb, e_ti, e_tn, e_tl, e_tt, e_add, e_addS, e_addL, e_addT, e_sub, e_mul, e_mod, e_fdiv, e_pow, e_neg, e_lt, e_le, e_gt, e_ge, e_eqI, e_lenT, e_lenL, e_lenS, e_lenR, e_tupL, e_tupT, e_intI, e_isiI, e_isiIB, e_isiT, e_isiS, e_isN, e_isI, e_isS, e_isT, e_sqT, e_sqL, e_sqS, wipeE, IL.envOf, List.map_cons, List.map_nil, List.length_cons, List.length_nil, Nat.zero_add, Nat.reduceSub, Nat.reduceAdd, List.replicate, List.cons_append, List.nil_append, List.set_cons_zero, List.set_cons_succ, List.getElem?_cons_zero, List.getElem?_cons_succ, List.getElem?_nil, restE, Option.join, Option.bind_some, Option.bind_none, id_eq, if_true, if_false, Bool.false_eq_true, Bool.not_true, Bool.not_false, Bool.bne_false, Bool.bne_true, reduceIte, Bool.true_bne, Bool.false_bne, and_true, true_and, fnW, z_Ttuple, z_Tlist, z_Tbool, z_Tint, z_Tstr, z_Tdict, z_Ttl, z_Ltuple, z_Llist, z_Lbool, z_Lint, z_Lstr, z_Ldict, z_Ltl, z_Stuple, z_Slist, z_Sbool, z_Sint, z_Sstr, z_Sdict, z_Stl, z_Ituple, z_Ilist, z_Ibool, z_Iint, z_Istr, z_Idict, z_Itl, z_Ntuple, z_Nlist, z_Nbool, z_Nint, z_Nstr, z_Ndict, z_Ntl, z_Btuple, z_Blist, z_Bbool, z_Bint, z_Bstr, z_Bdict, z_Btl, z_Tistrue, z_Tisfalse, z_Listrue, z_Lisfalse, z_Sistrue, z_Sisfalse, z_Iistrue, z_Iisfalse, z_Nistrue, z_Nisfalse, z_Bistrue, z_Bisfalse, beq_self_eq_true]
    refine ⟨⟨by omega, by omega⟩, ?_⟩
    rw [Int.toNat_natCast]
    refine ⟨size_le (by rw [rangePV_len]; omega), rfl, ?_⟩
    refine wComp_map (fun _ => .bl true) (fun x hx K acc hk => ?_) ?_
    · obtain ⟨j, hj, rfl⟩ := rangePV_mem hx
      simp only [sSeq, sNext, sRet, sRetN, sRetV, sSet, sIf, sDrop, sTgt, sPar, sNever, wTmps, setAll, sFor, gNm, IL.gTup, gEach, tTrue, tTru, tOf, tNotW, tAndW, tOrW, oAnd, oOr, oNotT, oIf, oChain, oTup, oLst, wArgs, oPrim, withOps, evOps, Opd.ev, oC, oVar, oSl, partEv, oMeth, isStrPV, oComp, oComp2, iSeq, iRange1, iRange2, rgW, oDict0, lift1, lift2, Opr.rd, rdAll, e_rl, Option.map_some, Option.map_none, e_pv, e_po, e_tb, e_ti, e_tn, e_tl, e_tt, e_add, e_addS, e_addL, e_addT, e_sub, e_mul, e_mod, e_fdiv, e_pow, e_neg, e_lt, e_le, e_gt, e_ge, e_eqI, e_lenT, e_lenL, e_lenS, e_lenR, e_tupL, e_tupT, e_intI, e_isiI, e_isiIB, e_isiT, e_isiS, e_isN, e_isI, e_isS, e_isT, e_sqT, e_sqL, e_sqS, wipeE, IL.envOf, List.map_cons, List.map_nil, List.length_cons, List.length_nil, Nat.zero_add, Nat.reduceSub, Nat.reduceAdd, List.replicate, List.cons_append, List.nil_append, List.set_cons_zero, List.set_cons_succ, List.getElem?_cons_zero, List.getElem?_cons_succ, List.getElem?_nil, restE, Option.join, Option.bind_some, Option.bind_none, id_eq, if_true, if_false, Bool.false_eq_true, Bool.not_true, Bool.not_false, Bool.bne_false, Bool.bne_true, reduceIte, Bool.true_bne, Bool.false_bne, and_true, true_and, fnW, oCall, Int.zero_add]
      refine pIx_tupN hj ?_
      refine pIx_tupN hj ?_
      exact ih _ (List.getElem_mem hj) hk
    · refine pAll_true (fun x hx => ?_) q
      rw [List.nil_append] at hx
      obtain ⟨_, _, rfl⟩ := List.mem_map.mp hx
      rfl
  | @lst n xs hl h ih =>
    intro Q q
    unfold F__law_same b__law_same
    simp only [sSeq, sNext, sRet, sRetN, sRetV, sSet, sIf, sDrop, sTgt, sPar, sNever, wTmps, setAll, sFor, gNm, IL.gTup, gEach, tTrue, tTru, tOf, tNotW, tAndW, tOrW, oAnd, oOr, oNotT, oIf, oChain, oTup, oLst, wArgs, oPrim, withOps, evOps, Opd.ev, oC, oVar, oSl, partEv, oMeth, isStrPV, oComp, oComp2, iSeq, iRange1, iRange2, rgW, oDict0, lift1, lift2, Opr.rd, rdAll, e_rl, Option.map_some, Option.map_none, e_pv, e_po, e_tb, e_ti, e_tn, e_tl, e_tt, e_add, e_addS, e_addL, e_addT, e_sub, e_mul, e_mod, e_fdiv, e_pow, e_neg, e_lt, e_le, e_gt, e_ge, e_eqI, e_lenT, e_lenL, e_lenS, e_lenR, e_tupL, e_tupT, e_intI, e_isiI, e_isiIB, e_isiT, e_isiS, e_isN, e_isI, e_isS, e_isT, e_sqT, e_sqL, e_sqS, wipeE, IL.envOf, List.map_cons, List.map_nil, List.length_cons, List.length_nil, Nat.zero_add, Nat.reduceSub, Nat.reduceAdd, List.replicate, List.cons_append, List.nil_append, List.set_cons_zero, List.set_cons_succ, List.getElem?_cons_zero, List.getElem?_cons_succ, List.getElem?_nil, restE, Option.join, Option.bind_some, Option.bind_none, id_eq, if_true, if_false, Bool.false_eq_true, Bool.not_true, Bool.not_false, Bool.bne_false, Bool.bne_true, reduceIte, Bool.true_bne, Bool.false_bne, and_true, true_and, fnW, z_Ttuple, z_Tlist, z_Tbool, z_Tint, z_Tstr, z_Tdict, z_Ttl, z_Ltuple, z_Llist, z_Lbool, z_Lint, z_Lstr, z_Ldict, z_Ltl, z_Stuple, z_Slist, z_Sbool, z_Sint, z_Sstr, z_Sdict, z_Stl, z_Ituple, z_Ilist, z_Ibool, z_Iint, z_Istr, z_Idict, z_Itl, z_Ntuple, z_Nlist, z_Nbool, z_Nint, z_Nstr, z_Ndict, z_Ntl, z_Btuple, z_Blist, z_Bbool, z_Bint, z_Bstr, z_Bdict, z_Btl, z_Tistrue, z_Tisfalse, z_Listrue, z_Lisfalse, z_Sistrue, z_Sisfalse, z_Iistrue, z_Iisfalse, z_Nistrue, z_Nisfalse, z_Bistrue, z_Bisfalse, beq_self_eq_true]
    refine ⟨⟨by omega, by omega⟩, ?_⟩
    rw [Int.toNat_natCast]
    refine ⟨size_le (by rw [rangePV_len]; omega), rfl, ?_⟩
    refine wComp_map (fun _ => .bl true) (fun x hx K acc hk => ?_) ?_
    · obtain ⟨j, hj, rfl⟩ := rangePV_mem hx
      simp only [sSeq, sNext, sRet, sRetN, sRetV, sSet, sIf, sDrop, sTgt, sPar, sNever, wTmps, setAll, sFor, gNm, IL.gTup, gEach, tTrue, tTru, tOf, tNotW, tAndW, tOrW, oAnd, oOr, oNotT, oIf, oChain, oTup, oLst, wArgs, oPrim, withOps, evOps, Opd.ev, oC, oVar, oSl, partEv, oMeth, isStrPV, oComp, oComp2, iSeq, iRange1, iRange2, rgW, oDict0, lift1, lift2, Opr.rd, rdAll, e_rl, Option.map_some, Option.map_none, e_pv, e_po, e_tb, e_ti, e_tn, e_tl, e_tt, e_add, e_addS, e_addL, e_addT, e_sub, e_mul, e_mod, e_fdiv, e_pow, e_neg, e_lt, e_le, e_gt, e_ge, e_eqI, e_lenT, e_lenL, e_lenS, e_lenR, e_tupL, e_tupT, e_intI, e_isiI, e_isiIB, e_isiT, e_isiS, e_isN, e_isI, e_isS, e_isT, e_sqT, e_sqL, e_sqS, wipeE, IL.envOf, List.map_cons, List.map_nil, List.length_cons, List.length_nil, Nat.zero_add, Nat.reduceSub, Nat.reduceAdd, List.replicate, List.cons_append, List.nil_append, List.set_cons_zero, List.set_cons_succ, List.getElem?_cons_zero, List.getElem?_cons_succ, List.getElem?_nil, restE, Option.join, Option.bind_some, Option.bind_none, id_eq, if_true, if_false, Bool.false_eq_true, Bool.not_true, Bool.not_false, Bool.bne_false, Bool.bne_true, reduceIte, Bool.true_bne, Bool.false_bne, and_true, true_and, fnW, oCall, Int.zero_add]
      refine pIx_lstN hj ?_
      refine pIx_lstN hj ?_
      exact ih _ (List.getElem_mem hj) hk
    · refine pAll_true (fun x hx => ?_) q
      rw [List.nil_append] at hx
      obtain ⟨_, _, rfl⟩ := List.mem_map.mp hx
      rfl
theorem DS.mono {n m : Nat} {x : PV} (h : DS n x) (hn : n ≤ m) : DS m x := by
  induction h generalizing m with
  | int n i => exact .int m i
  | str n h => exact .str m h
  | tup hl h ih => obtain ⟨k, rfl⟩ : ∃ k, m = k + 1 := ⟨m - 1, by omega⟩; exact .tup hl fun x hx => ih x hx (by omega)
  | lst hl h ih => obtain ⟨k, rfl⟩ : ∃ k, m = k + 1 := ⟨m - 1, by omega⟩; exact .lst hl fun x hx => ih x hx (by omega)
theorem i_same8 {n : Nat} {x : PV} (h : DS n x) (hn : n ≤ 7) (q : Q (.v (.bl true))) : F__law_same 8 [x, x] Q := i_law_same (h.mono hn) q
end ILaw

namespace ILaw
open PySem PySem.Spec PyProof.Rows L2 IL TL
variable {Q : TV → Prop}
def nrm (p : Nat × Nat) : Nat × Nat := if p.1 < p.2 then p else (p.2, p.1)
def pairsL (m : Nat) : List (Nat × Nat) := (List.range m).flatMap fun i => (List.range (m - (i + 1))).map fun k => (i, i + 1 + k)
theorem mem_pairsL {m : Nat} {p : Nat × Nat} (h : p ∈ pairsL m) : p.1 < p.2 ∧ p.2 < m := by
  unfold pairsL at h
  obtain ⟨i, hi, h⟩ := List.mem_flatMap.mp h
  obtain ⟨k, hk, rfl⟩ := List.mem_map.mp h
  have := List.mem_range.mp hi
  have := List.mem_range.mp hk
  exact ⟨by show i < i + 1 + k; omega, by show i + 1 + k < m; omega⟩
theorem pairsL_small {m : Nat} (h : m ≤ 8) : (pairsL m).Nodup ∧ (pairsL m).length ≤ 28 := by
  have key : ∀ m : Fin 9, (pairsL m.val).Nodup ∧ (pairsL m.val).length ≤ 28 := by decide +kernel
  exact key ⟨m, by omega⟩
theorem nrm_eq {p q : Nat × Nat} (h : nrm p = nrm q) : p = q ∨ p = (q.2, q.1) := by
  unfold nrm at h
  obtain ⟨a, b⟩ := p
  obtain ⟨c, d⟩ := q
  simp only at h ⊢
  split at h <;> split at h <;> simp only [Prod.mk.injEq] at h ⊢ <;> omega
theorem nrm_swap {p : Nat × Nat} (h : p.1 ≠ p.2) : nrm (p.2, p.1) = nrm p := by
  unfold nrm
  obtain ⟨a, b⟩ := p
  simp only at h ⊢
  split <;> split <;> simp only [Prod.mk.injEq] <;> omega
theorem inj_map {α β : Type} {f : α → β} : ∀ {l : List α}, (l.map f).Nodup → ∀ a ∈ l, ∀ b ∈ l, f a = f b → a = b
  | [], _, _, h, _, _, _ => by cases h
  | x :: xs, h, a, ha, b, hb, e => by
    rw [List.map_cons, List.nodup_cons] at h
    have ha' := List.mem_cons.mp ha
    have hb' := List.mem_cons.mp hb
    rcases ha' with e1 | ha' <;> rcases hb' with e2 | hb'
    · rw [e1, e2]
    · exact absurd (show f x ∈ xs.map f from List.mem_map.mpr ⟨b, hb', by rw [← e1, e]⟩) h.1
    · exact absurd (show f x ∈ xs.map f from List.mem_map.mpr ⟨a, ha', by rw [← e2, e]⟩) h.1
    · exact inj_map h.2 a ha' b hb' e
theorem sel_nodup {m : Nat} {r : Nat → Nat} (m8 : m ≤ 8) (inj : ∀ i, i < m → ∀ j, j < m → r i = r j → i = j) : ((pairsL m).map fun p => nrm (r p.1, r p.2)).Nodup := by
  unfold List.Nodup
  rw [List.pairwise_map]
  refine List.Pairwise.imp_of_mem (fun {p q} hp hq hne e => hne ?_) (pairsL_small m8).1
  have h1 := mem_pairsL hp
  have h2 := mem_pairsL hq
  rcases nrm_eq e with e | e
  · injection e with e1 e2
    exact Prod.ext (inj _ (by omega) _ (by omega) e1) (inj _ (by omega) _ (by omega) e2)
  · injection e with e1 e2
    have e1 := inj _ (by omega) _ (by omega) e1
    have e2 := inj _ (by omega) _ (by omega) e2
    omega
theorem good_of_sel {m : Nat} {ws fs : List (Nat × Nat)} {r : Nat → Nat} (m1 : 1 ≤ m) (m8 : m ≤ 8) (hr : ∀ i, i < m → r i < m) (inj : ∀ i, i < m → ∀ j, j < m → r i = r j → i = j)
    (sub : (fs.map nrm).Sublist ((pairsL m).map fun p => nrm (r p.1, r p.2))) (pm : ws.Perm fs) (srt : ws.Pairwise fun p q => p.1 < q.1 ∨ (p.1 = q.1 ∧ p.2 ≤ q.2)) : Good m ws := by
  have N : (ws.map nrm).Nodup := ((pm.map nrm).nodup_iff).mpr (sub.nodup (sel_nodup m8 inj))
  have rng : ∀ p ∈ ws, p.1 < m ∧ p.2 < m ∧ p.1 ≠ p.2 := fun p hp => by
    have h1 := sub.subset (List.mem_map.mpr ⟨p, pm.subset hp, rfl⟩)
    obtain ⟨q, hq, e⟩ := List.mem_map.mp h1
    obtain ⟨q1, q2⟩ := mem_pairsL hq
    have a := hr q.1 (by omega)
    have b := hr q.2 (by omega)
    have ne : r q.1 ≠ r q.2 := fun z => by have := inj _ (by omega) _ (by omega) z; omega
    rcases nrm_eq e.symm with e | e <;> subst e
    · exact ⟨a, b, ne⟩
    · exact ⟨b, a, ne.symm⟩
  refine ⟨m1, m8, rng, ?_, fun p hp hs => ?_, ?_⟩
  · have N2 : ws.Pairwise fun p q => nrm p ≠ nrm q := by
      unfold List.Nodup at N
      rw [List.pairwise_map] at N
      exact N
    refine List.Pairwise.imp (fun {p q} ⟨h1, h2⟩ => ?_) (srt.and N2)
    rcases h1 with h1 | ⟨h1, h3⟩
    · exact .inl h1
    · refine .inr ⟨h1, ?_⟩
      rcases Nat.lt_or_eq_of_le h3 with h | h
      · exact h
      · exact absurd (congrArg nrm (Prod.ext h1 h)) h2
  · have r := (rng p hp).2.2
    have := inj_map N p hp (p.2, p.1) hs (nrm_swap r).symm
    exact r (congrArg Prod.fst this)
  · have h1 := sub.length_le
    rw [List.length_map, List.length_map] at h1
    have := (pairsL_small m8).2
    rw [pm.length_eq]
    omega
/-- a row's exchange -/
def swp (j i : Nat) : Nat := if i = 0 then j else if i = j then 0 else i
theorem swp_inj {j i k : Nat} (h : swp j i = swp j k) : i = k := by
  unfold swp at h
  split at h <;> split at h <;> (try split at h) <;> (try split at h) <;> omega
theorem swp_lt {m j i : Nat} (hj : j < m) (hi : i < m) : swp j i < m := by
  unfold swp
  split
  · omega
  · split <;> omega
def rowL (m i : Nat) : List (Nat × Nat) := (List.range (m - (i + 1))).map fun k => (i, i + 1 + k)
def pairsU (m k : Nat) : List (Nat × Nat) := (List.range k).flatMap (rowL m)
theorem pairsU_succ (m k : Nat) : pairsU m (k + 1) = pairsU m k ++ rowL m k := by
  unfold pairsU
  rw [List.range_succ, List.flatMap_append]
  simp
theorem pairsU_len {m k : Nat} (h : m ≤ 8) (hk : k ≤ 8) : (pairsU m k).length ≤ 64 := by
  have key : ∀ m k : Fin 9, (pairsU m.val k.val).length ≤ 64 := by decide +kernel
  exact key ⟨m, by omega⟩ ⟨k, by omega⟩
theorem i_pairs {m : Nat} (m8 : m ≤ 8) (h : Q (.own (.lst ((pairsL m).map pPV)))) : F__law_pairs [.int m] Q := by
  unfold F__law_pairs b__law_pairs
  simp only [sSeq, sNext, sRet, sRetN, sRetV, sSet, sIf, sDrop, sTgt, sPar, sNever, wTmps, setAll, sFor, gNm, IL.gTup, gEach, tTrue, tTru, tOf, tNotW, tAndW, tOrW, oAnd, oOr, oNotT, oIf, oChain, oTup, oLst, wArgs, oPrim, withOps, evOps, Opd.ev, oC, oVar, oSl, partEv, oMeth, isStrPV, oComp, oComp2, iSeq, iRange1, iRange2, rgW, oDict0, lift1, lift2, Opr.rd, rdAll, e_rl, Option.map_some, Option.map_none, e_pv, e_po, e_tb, e_ti, e_tn, e_tl, e_tt, e_add, e_addS, e_addL, e_addT, e_sub, e_mul, e_mod, e_fdiv, e_pow, e_neg, e_lt, e_le, e_gt, e_ge, e_eqI, e_lenT, e_lenL, e_lenS, e_lenR, e_tupL, e_tupT, e_intI, e_isiI, e_isiIB, e_isiT, e_isiS, e_isN, e_isI, e_isS, e_isT, e_sqT, e_sqL, e_sqS, wipeE, IL.envOf, List.map_cons, List.map_nil, List.length_cons, List.length_nil, Nat.zero_add, Nat.reduceSub, Nat.reduceAdd, List.replicate, List.cons_append, List.nil_append, List.set_cons_zero, List.set_cons_succ, List.getElem?_cons_zero, List.getElem?_cons_succ, List.getElem?_nil, restE, Option.join, Option.bind_some, Option.bind_none, id_eq, if_true, if_false, Bool.false_eq_true, Bool.not_true, Bool.not_false, Bool.bne_false, Bool.bne_true, reduceIte, Bool.true_bne, Bool.false_bne, and_true, true_and, fnW]
  refine ⟨⟨by omega, by omega⟩, ?_⟩
  rw [Int.toNat_natCast]
  refine wFor_inv (fun xs e => ∃ (k : Nat) (e2 : Option TV), k ≤ m ∧ xs = rangePV k (m - k) ∧ e = [some (.v (.int m)), some (.own (.lst ((pairsU m k).map pPV))), e2, none]) (fun e ⟨k, e2, hk, hx, he⟩ => ?_) ⟨0, none, Nat.zero_le _, rfl, rfl⟩ (fun x xs e ⟨k, e2, hk, hx, he⟩ K hK => ?_)
  · subst he
    have : m - k = 0 := by
      have := congrArg List.length hx
      rw [rangePV_len] at this
      exact this.symm
    have : k = m := by omega
    subst this
    simp only [sSeq, sNext, sRet, sRetN, sRetV, sSet, sIf, sDrop, sTgt, sPar, sNever, wTmps, setAll, sFor, gNm, IL.gTup, gEach, tTrue, tTru, tOf, tNotW, tAndW, tOrW, oAnd, oOr, oNotT, oIf, oChain, oTup, oLst, wArgs, oPrim, withOps, evOps, Opd.ev, oC, oVar, oSl, partEv, oMeth, isStrPV, oComp, oComp2, iSeq, iRange1, iRange2, rgW, oDict0, lift1, lift2, Opr.rd, rdAll, e_rl, Option.map_some, Option.map_none, e_pv, e_po, e_tb, e_ti, e_tn, e_tl, e_tt, e_add, e_addS, e_addL, e_addT, e_sub, e_mul, e_mod, e_fdiv, e_pow, e_neg, e_lt, e_le, e_gt, e_ge, e_eqI, e_lenT, e_lenL, e_lenS, e_lenR, e_tupL, e_tupT, e_intI, e_isiI, e_isiIB, e_isiT, e_isiS, e_isN, e_isI, e_isS, e_isT, e_sqT, e_sqL, e_sqS, wipeE, IL.envOf, List.map_cons, List.map_nil, List.length_cons, List.length_nil, Nat.zero_add, Nat.reduceSub, Nat.reduceAdd, List.replicate, List.cons_append, List.nil_append, List.set_cons_zero, List.set_cons_succ, List.getElem?_cons_zero, List.getElem?_cons_succ, List.getElem?_nil, restE, Option.join, Option.bind_some, Option.bind_none, id_eq, if_true, if_false, Bool.false_eq_true, Bool.not_true, Bool.not_false, Bool.bne_false, Bool.bne_true, reduceIte, Bool.true_bne, Bool.false_bne, and_true, true_and, fnW]
    exact h
  · subst he
    have hkm : k < m := by
      have := congrArg List.length hx
      rw [rangePV_len, List.length_cons] at this
      omega
    rw [show m - k = (m - (k + 1)) + 1 by omega, rangePV_succ] at hx
    injection hx with h1 h2
    subst h1
    simp only [sSeq, sNext, sRet, sRetN, sRetV, sSet, sIf, sDrop, sTgt, sPar, sNever, wTmps, setAll, sFor, gNm, IL.gTup, gEach, tTrue, tTru, tOf, tNotW, tAndW, tOrW, oAnd, oOr, oNotT, oIf, oChain, oTup, oLst, wArgs, oPrim, withOps, evOps, Opd.ev, oC, oVar, oSl, partEv, oMeth, isStrPV, oComp, oComp2, iSeq, iRange1, iRange2, rgW, oDict0, lift1, lift2, Opr.rd, rdAll, e_rl, Option.map_some, Option.map_none, e_pv, e_po, e_tb, e_ti, e_tn, e_tl, e_tt, e_add, e_addS, e_addL, e_addT, e_sub, e_mul, e_mod, e_fdiv, e_pow, e_neg, e_lt, e_le, e_gt, e_ge, e_eqI, e_lenT, e_lenL, e_lenS, e_lenR, e_tupL, e_tupT, e_intI, e_isiI, e_isiIB, e_isiT, e_isiS, e_isN, e_isI, e_isS, e_isT, e_sqT, e_sqL, e_sqS, wipeE, IL.envOf, List.map_cons, List.map_nil, List.length_cons, List.length_nil, Nat.zero_add, Nat.reduceSub, Nat.reduceAdd, List.replicate, List.cons_append, List.nil_append, List.set_cons_zero, List.set_cons_succ, List.getElem?_cons_zero, List.getElem?_cons_succ, List.getElem?_nil, restE, Option.join, Option.bind_some, Option.bind_none, id_eq, if_true, if_false, Bool.false_eq_true, Bool.not_true, Bool.not_false, Bool.bne_false, Bool.bne_true, reduceIte, Bool.true_bne, Bool.false_bne, and_true, true_and, fnW]
    refine ⟨⟨by omega, by omega⟩, size_le (by rw [rangePV_len]; omega), rfl, ?_⟩
    refine wComp_map (fun y => .tup [.int k, y]) (fun x hx K acc hk => ?_) ?_
    · simp only [sSeq, sNext, sRet, sRetN, sRetV, sSet, sIf, sDrop, sTgt, sPar, sNever, wTmps, setAll, sFor, gNm, IL.gTup, gEach, tTrue, tTru, tOf, tNotW, tAndW, tOrW, oAnd, oOr, oNotT, oIf, oChain, oTup, oLst, wArgs, oPrim, withOps, evOps, Opd.ev, oC, oVar, oSl, partEv, oMeth, isStrPV, oComp, oComp2, iSeq, iRange1, iRange2, rgW, oDict0, lift1, lift2, Opr.rd, rdAll, e_rl, Option.map_some, Option.map_none, e_pv, e_po, e_tb, e_ti, e_tn, e_tl, e_tt, e_add, e_addS, e_addL, e_addT, e_sub, e_mul, e_mod, e_fdiv, e_pow, e_neg, e_lt, e_le, e_gt, e_ge, e_eqI, e_lenT, e_lenL, e_lenS, e_lenR, e_tupL, e_tupT, e_intI, e_isiI, e_isiIB, e_isiT, e_isiS, e_isN, e_isI, e_isS, e_isT, e_sqT, e_sqL, e_sqS, wipeE, IL.envOf, List.map_cons, List.map_nil, List.length_cons, List.length_nil, Nat.zero_add, Nat.reduceSub, Nat.reduceAdd, List.replicate, List.cons_append, List.nil_append, List.set_cons_zero, List.set_cons_succ, List.getElem?_cons_zero, List.getElem?_cons_succ, List.getElem?_nil, restE, Option.join, Option.bind_some, Option.bind_none, id_eq, if_true, if_false, Bool.false_eq_true, Bool.not_true, Bool.not_false, Bool.bne_false, Bool.bne_true, reduceIte, Bool.true_bne, Bool.false_bne, and_true, true_and, fnW]
      exact hk
    · have e : (rangePV ((k : Int) + 1) (((m : Int) - ((k : Int) + 1)).toNat)).map (fun y => PV.tup [.int k, y]) = (rowL m k).map pPV := by
        have : ((m : Int) - ((k : Int) + 1)).toNat = m - (k + 1) := by omega
        rw [this]
        unfold rangePV rowL
        rw [List.map_map, List.map_map]
        apply List.map_congr_left
        intro j _
        show PV.tup [.int k, .int ((k : Int) + 1 + (j : Nat))] = .tup [.int (k : Nat), .int ((k + 1 + j : Nat) : Int)]
        have : (k : Int) + 1 + (j : Nat) = ((k + 1 + j : Nat) : Int) := by omega
        rw [this]
      rw [e]
      simp only [sSeq, sNext, sRet, sRetN, sRetV, sSet, sIf, sDrop, sTgt, sPar, sNever, wTmps, setAll, sFor, gNm, IL.gTup, gEach, tTrue, tTru, tOf, tNotW, tAndW, tOrW, oAnd, oOr, oNotT, oIf, oChain, oTup, oLst, wArgs, oPrim, withOps, evOps, Opd.ev, oC, oVar, oSl, partEv, oMeth, isStrPV, oComp, oComp2, iSeq, iRange1, iRange2, rgW, oDict0, lift1, lift2, Opr.rd, rdAll, e_rl, Option.map_some, Option.map_none, e_pv, e_po, e_tb, e_ti, e_tn, e_tl, e_tt, e_add, e_addS, e_addL, e_addT, e_sub, e_mul, e_mod, e_fdiv, e_pow, e_neg, e_lt, e_le, e_gt, e_ge, e_eqI, e_lenT, e_lenL, e_lenS, e_lenR, e_tupL, e_tupT, e_intI, e_isiI, e_isiIB, e_isiT, e_isiS, e_isN, e_isI, e_isS, e_isT, e_sqT, e_sqL, e_sqS, wipeE, IL.envOf, List.map_cons, List.map_nil, List.length_cons, List.length_nil, Nat.zero_add, Nat.reduceSub, Nat.reduceAdd, List.replicate, List.cons_append, List.nil_append, List.set_cons_zero, List.set_cons_succ, List.getElem?_cons_zero, List.getElem?_cons_succ, List.getElem?_nil, restE, Option.join, Option.bind_some, Option.bind_none, id_eq, if_true, if_false, Bool.false_eq_true, Bool.not_true, Bool.not_false, Bool.bne_false, Bool.bne_true, reduceIte, Bool.true_bne, Bool.false_bne, and_true, true_and, fnW]
      have hl : ((pairsU m k).map pPV).length ≤ 64 := by simpa using pairsU_len m8 (by omega)
      have hl2 : ((rowL m k).map pPV).length ≤ 8 := by simp [rowL]; omega
      refine ⟨size_le (by omega), ?_⟩
      rw [← List.map_append, ← pairsU_succ]
      exact hK _ ⟨k + 1, _, hkm, by rw [h2]; congr 1, rfl⟩
theorem pairsPV_ws : ∀ fs : List (Nat × Nat), pairsPV (fs.map pPV) = some (fs.map fun p => ((p.1 : Int), (p.2 : Int)))
  | [] => rfl
  | p :: fs => by
    show (pairsPV (fs.map pPV)).map (((p.1 : Int), (p.2 : Int)) :: ·) = _
    rw [pairsPV_ws fs]
    rfl
theorem pSorted_ws {fs : List (Nat × Nat)} (h : ∀ ws : List (Nat × Nat), ws.Perm fs → (ws.Pairwise fun p q => p.1 < q.1 ∨ (p.1 = q.1 ∧ p.2 ≤ q.2)) → Q (.own (.lst (ws.map pPV)))) : pSorted (.lst (fs.map pPV)) Q := by
  cases fs with
  | nil =>
    intro ms pm _
    have e : ms = [] := pm.eq_nil
    subst e
    exact h [] (List.Perm.refl _) List.Pairwise.nil
  | cons p fs =>
    show match pairsPV ((p :: fs).map pPV) with | some ps => ∀ qs : List (Int × Int), qs.Perm ps → qs.Pairwise lexLe → Q (.own (.lst (qs.map pairPV))) | none => False
    rw [pairsPV_ws]
    intro qs pm srt
    have e1 : ((qs.map fun p => (p.1.toNat, p.2.toNat)) : List (Nat × Nat)).Perm (p :: fs) := by
      have := pm.map fun p : Int × Int => (p.1.toNat, p.2.toNat)
      rw [List.map_map] at this
      have e : ((fun p : Int × Int => (p.1.toNat, p.2.toNat)) ∘ fun p : Nat × Nat => ((p.1 : Int), (p.2 : Int))) = id := by
        funext p
        simp
      rw [e, List.map_id] at this
      exact this
    have hn : ∀ q ∈ qs, q = (((q.1.toNat : Nat) : Int), ((q.2.toNat : Nat) : Int)) := fun q hq => by
      obtain ⟨r, _, rfl⟩ := List.mem_map.mp (pm.subset hq)
      simp
    have e2 : qs.map pairPV = (qs.map fun p => (p.1.toNat, p.2.toNat)).map pPV := by
      rw [List.map_map]
      apply List.map_congr_left
      intro q hq
      show pairPV q = .tup [.int ((q.1.toNat : Nat) : Int), .int ((q.2.toNat : Nat) : Int)]
      conv => lhs; rw [hn q hq]
      rfl
    rw [e2]
    refine h _ e1 ?_
    rw [List.pairwise_map]
    refine List.Pairwise.imp_of_mem (fun {a b} ha hb hab => ?_) srt
    have h1 := hn a ha
    have h2 := hn b hb
    rw [h1, h2] at hab
    rcases hab with z | ⟨z1, z2⟩
    · exact .inl (Int.ofNat_lt.mp z)
    · exact .inr ⟨Int.ofNat_inj.mp z1, Int.ofNat_le.mp z2⟩
theorem i_games {m : Nat} {sh : Int} (m1 : 1 ≤ m) (m8 : m ≤ 8) (h : ∀ ws, Good m ws → Q (.v (gPV m ws))) : F__law_games [.well, .int m, .int sh] Q := by
  unfold F__law_games b__law_games
  simp only [sSeq, sNext, sRet, sRetN, sRetV, sSet, sIf, sDrop, sTgt, sPar, sNever, wTmps, setAll, sFor, gNm, IL.gTup, gEach, tTrue, tTru, tOf, tNotW, tAndW, tOrW, oAnd, oOr, oNotT, oIf, oChain, oTup, oLst, wArgs, oPrim, withOps, evOps, Opd.ev, oC, oVar, oSl, partEv, oMeth, isStrPV, oComp, oComp2, iSeq, iRange1, iRange2, rgW, oDict0, lift1, lift2, Opr.rd, rdAll, e_rl, Option.map_some, Option.map_none, e_pv, e_po, e_tb, e_ti, e_tn, e_tl, e_tt, e_add, e_addS, e_addL, e_addT, e_sub, e_mul, e_mod, e_fdiv, e_pow, e_neg, e_lt, e_le, e_gt, e_ge, e_eqI, e_lenT, e_lenL, e_lenS, e_lenR, e_tupL, e_tupT, e_intI, e_isiI, e_isiIB, e_isiT, e_isiS, e_isN, e_isI, e_isS, e_isT, e_sqT, e_sqL, e_sqS, wipeE, IL.envOf, List.map_cons, List.map_nil, List.length_cons, List.length_nil, Nat.zero_add, Nat.reduceSub, Nat.reduceAdd, List.replicate, List.cons_append, List.nil_append, List.set_cons_zero, List.set_cons_succ, List.getElem?_cons_zero, List.getElem?_cons_succ, List.getElem?_nil, restE, Option.join, Option.bind_some, Option.bind_none, id_eq, if_true, if_false, Bool.false_eq_true, Bool.not_true, Bool.not_false, Bool.bne_false, Bool.bne_true, reduceIte, Bool.true_bne, Bool.false_bne, and_true, true_and, fnW, oCall]
  refine i_pairs m8 ?_
  simp only [sSeq, sNext, sRet, sRetN, sRetV, sSet, sIf, sDrop, sTgt, sPar, sNever, wTmps, setAll, sFor, gNm, IL.gTup, gEach, tTrue, tTru, tOf, tNotW, tAndW, tOrW, oAnd, oOr, oNotT, oIf, oChain, oTup, oLst, wArgs, oPrim, withOps, evOps, Opd.ev, oC, oVar, oSl, partEv, oMeth, isStrPV, oComp, oComp2, iSeq, iRange1, iRange2, rgW, oDict0, lift1, lift2, Opr.rd, rdAll, e_rl, Option.map_some, Option.map_none, e_pv, e_po, e_tb, e_ti, e_tn, e_tl, e_tt, e_add, e_addS, e_addL, e_addT, e_sub, e_mul, e_mod, e_fdiv, e_pow, e_neg, e_lt, e_le, e_gt, e_ge, e_eqI, e_lenT, e_lenL, e_lenS, e_lenR, e_tupL, e_tupT, e_intI, e_isiI, e_isiIB, e_isiT, e_isiS, e_isN, e_isI, e_isS, e_isT, e_sqT, e_sqL, e_sqS, wipeE, IL.envOf, List.map_cons, List.map_nil, List.length_cons, List.length_nil, Nat.zero_add, Nat.reduceSub, Nat.reduceAdd, List.replicate, List.cons_append, List.nil_append, List.set_cons_zero, List.set_cons_succ, List.getElem?_cons_zero, List.getElem?_cons_succ, List.getElem?_nil, restE, Option.join, Option.bind_some, Option.bind_none, id_eq, if_true, if_false, Bool.false_eq_true, Bool.not_true, Bool.not_false, Bool.bne_false, Bool.bne_true, reduceIte, Bool.true_bne, Bool.false_bne, and_true, true_and, fnW]
  refine wFor_inv (fun xs e => ∃ (pre suf fs : List (Nat × Nat)) (e4 e5 : Option TV), pairsL m = pre ++ suf ∧ xs = suf.map pPV ∧ (fs.map nrm).Sublist (pre.map fun p => nrm (id p.1, id p.2)) ∧ e = [some (.v .well), some (.v (.int m)), some (.v (.int sh)), some (.own (.lst (fs.map pPV))), e4, e5]) (fun e ⟨pre, suf, fs, e4, e5, h1, h2, h3, he⟩ => ?_) ⟨[], _, [], none, none, rfl, rfl, List.Sublist.slnil, rfl⟩ (fun x xs e ⟨pre, suf, fs, e4, e5, h1, h2, h3, he⟩ K hK => ?_)
  · subst he
    have : suf = [] := List.map_eq_nil_iff.mp h2.symm
    subst this
    rw [List.append_nil] at h1
    subst h1
    simp only [sSeq, sNext, sRet, sRetN, sRetV, sSet, sIf, sDrop, sTgt, sPar, sNever, wTmps, setAll, sFor, gNm, IL.gTup, gEach, tTrue, tTru, tOf, tNotW, tAndW, tOrW, oAnd, oOr, oNotT, oIf, oChain, oTup, oLst, wArgs, oPrim, withOps, evOps, Opd.ev, oC, oVar, oSl, partEv, oMeth, isStrPV, oComp, oComp2, iSeq, iRange1, iRange2, rgW, oDict0, lift1, lift2, Opr.rd, rdAll, e_rl, Option.map_some, Option.map_none, e_pv, e_po, e_tb, e_ti, e_tn, e_tl, e_tt, e_add, e_addS, e_addL, e_addT, e_sub, e_mul, e_mod, e_fdiv, e_pow, e_neg, e_lt, e_le, e_gt, e_ge, e_eqI, e_lenT, e_lenL, e_lenS, e_lenR, e_tupL, e_tupT, e_intI, e_isiI, e_isiIB, e_isiT, e_isiS, e_isN, e_isI, e_isS, e_isT, e_sqT, e_sqL, e_sqS, wipeE, IL.envOf, List.map_cons, List.map_nil, List.length_cons, List.length_nil, Nat.zero_add, Nat.reduceSub, Nat.reduceAdd, List.replicate, List.cons_append, List.nil_append, List.set_cons_zero, List.set_cons_succ, List.getElem?_cons_zero, List.getElem?_cons_succ, List.getElem?_nil, restE, Option.join, Option.bind_some, Option.bind_none, id_eq, if_true, if_false, Bool.false_eq_true, Bool.not_true, Bool.not_false, Bool.bne_false, Bool.bne_true, reduceIte, Bool.true_bne, Bool.false_bne, and_true, true_and, fnW]
    refine pSorted_ws fun ws pm srt => ?_
    simp only [sSeq, sNext, sRet, sRetN, sRetV, sSet, sIf, sDrop, sTgt, sPar, sNever, wTmps, setAll, sFor, gNm, IL.gTup, gEach, tTrue, tTru, tOf, tNotW, tAndW, tOrW, oAnd, oOr, oNotT, oIf, oChain, oTup, oLst, wArgs, oPrim, withOps, evOps, Opd.ev, oC, oVar, oSl, partEv, oMeth, isStrPV, oComp, oComp2, iSeq, iRange1, iRange2, rgW, oDict0, lift1, lift2, Opr.rd, rdAll, e_rl, Option.map_some, Option.map_none, e_pv, e_po, e_tb, e_ti, e_tn, e_tl, e_tt, e_add, e_addS, e_addL, e_addT, e_sub, e_mul, e_mod, e_fdiv, e_pow, e_neg, e_lt, e_le, e_gt, e_ge, e_eqI, e_lenT, e_lenL, e_lenS, e_lenR, e_tupL, e_tupT, e_intI, e_isiI, e_isiIB, e_isiT, e_isiS, e_isN, e_isI, e_isS, e_isT, e_sqT, e_sqL, e_sqS, wipeE, IL.envOf, List.map_cons, List.map_nil, List.length_cons, List.length_nil, Nat.zero_add, Nat.reduceSub, Nat.reduceAdd, List.replicate, List.cons_append, List.nil_append, List.set_cons_zero, List.set_cons_succ, List.getElem?_cons_zero, List.getElem?_cons_succ, List.getElem?_nil, restE, Option.join, Option.bind_some, Option.bind_none, id_eq, if_true, if_false, Bool.false_eq_true, Bool.not_true, Bool.not_false, Bool.bne_false, Bool.bne_true, reduceIte, Bool.true_bne, Bool.false_bne, and_true, true_and, fnW]
    exact h ws (good_of_sel (r := id) m1 m8 (fun i hi => hi) (fun i _ j _ z => z) h3 pm srt)
  · subst he
    cases suf with
    | nil => cases h2
    | cons p suf =>
      rw [List.map_cons] at h2
      injection h2 with h2 h4
      subst h2 h4
      have hp := mem_pairsL (show p ∈ pairsL m by rw [h1]; simp)
      have hlen : fs.length ≤ 28 := by
        have a := h3.length_le
        have b := (pairsL_small m8).2
        rw [h1] at b
        simp at a b
        omega
      have hl2 : (fs.map pPV).length < sizeLine := by
        have := size_le (n := fs.length + 1) (by omega)
        simp; omega
      simp only [sSeq, sNext, sRet, sRetN, sRetV, sSet, sIf, sDrop, sTgt, sPar, sNever, wTmps, setAll, sFor, gNm, IL.gTup, gEach, tTrue, tTru, tOf, tNotW, tAndW, tOrW, oAnd, oOr, oNotT, oIf, oChain, oTup, oLst, wArgs, oPrim, withOps, evOps, Opd.ev, oC, oVar, oSl, partEv, oMeth, isStrPV, oComp, oComp2, iSeq, iRange1, iRange2, rgW, oDict0, lift1, lift2, Opr.rd, rdAll, e_rl, Option.map_some, Option.map_none, e_pv, e_po, e_tb, e_ti, e_tn, e_tl, e_tt, e_add, e_addS, e_addL, e_addT, e_sub, e_mul, e_mod, e_fdiv, e_pow, e_neg, e_lt, e_le, e_gt, e_ge, e_eqI, e_lenT, e_lenL, e_lenS, e_lenR, e_tupL, e_tupT, e_intI, e_isiI, e_isiIB, e_isiT, e_isiS, e_isN, e_isI, e_isS, e_isT, e_sqT, e_sqL, e_sqS, wipeE, IL.envOf, List.map_cons, List.map_nil, List.length_cons, List.length_nil, Nat.zero_add, Nat.reduceSub, Nat.reduceAdd, List.replicate, List.cons_append, List.nil_append, List.set_cons_zero, List.set_cons_succ, List.getElem?_cons_zero, List.getElem?_cons_succ, List.getElem?_nil, restE, Option.join, Option.bind_some, Option.bind_none, id_eq, if_true, if_false, Bool.false_eq_true, Bool.not_true, Bool.not_false, Bool.bne_false, Bool.bne_true, reduceIte, Bool.true_bne, Bool.false_bne, and_true, true_and, fnW, oCall, pPV]
      refine i_take (by omega) (by omega) fun r _ _ => ?_
      simp only [sSeq, sNext, sRet, sRetN, sRetV, sSet, sIf, sDrop, sTgt, sPar, sNever, wTmps, setAll, sFor, gNm, IL.gTup, gEach, tTrue, tTru, tOf, tNotW, tAndW, tOrW, oAnd, oOr, oNotT, oIf, oChain, oTup, oLst, wArgs, oPrim, withOps, evOps, Opd.ev, oC, oVar, oSl, partEv, oMeth, isStrPV, oComp, oComp2, iSeq, iRange1, iRange2, rgW, oDict0, lift1, lift2, Opr.rd, rdAll, e_rl, Option.map_some, Option.map_none, e_pv, e_po, e_tb, e_ti, e_tn, e_tl, e_tt, e_add, e_addS, e_addL, e_addT, e_sub, e_mul, e_mod, e_fdiv, e_pow, e_neg, e_lt, e_le, e_gt, e_ge, e_eqI, e_lenT, e_lenL, e_lenS, e_lenR, e_tupL, e_tupT, e_intI, e_isiI, e_isiIB, e_isiT, e_isiS, e_isN, e_isI, e_isS, e_isT, e_sqT, e_sqL, e_sqS, wipeE, IL.envOf, List.map_cons, List.map_nil, List.length_cons, List.length_nil, Nat.zero_add, Nat.reduceSub, Nat.reduceAdd, List.replicate, List.cons_append, List.nil_append, List.set_cons_zero, List.set_cons_succ, List.getElem?_cons_zero, List.getElem?_cons_succ, List.getElem?_nil, restE, Option.join, Option.bind_some, Option.bind_none, id_eq, if_true, if_false, Bool.false_eq_true, Bool.not_true, Bool.not_false, Bool.bne_false, Bool.bne_true, reduceIte, Bool.true_bne, Bool.false_bne, and_true, true_and, fnW]
      have keep : ∀ q : Nat × Nat, nrm q = nrm p → ((fs ++ [q]).map nrm).Sublist ((pre ++ [p]).map fun p => nrm (id p.1, id p.2)) := fun q hq => by
        rw [List.map_append, List.map_append]
        refine List.Sublist.append h3 ?_
        show [nrm q].Sublist [nrm p]
        rw [hq]
        exact List.Sublist.refl _
      by_cases hr : sh ≤ r
      · rw [if_pos (decide_eq_true hr)]
        simp only [sSeq, sNext, sRet, sRetN, sRetV, sSet, sIf, sDrop, sTgt, sPar, sNever, wTmps, setAll, sFor, gNm, IL.gTup, gEach, tTrue, tTru, tOf, tNotW, tAndW, tOrW, oAnd, oOr, oNotT, oIf, oChain, oTup, oLst, wArgs, oPrim, withOps, evOps, Opd.ev, oC, oVar, oSl, partEv, oMeth, isStrPV, oComp, oComp2, iSeq, iRange1, iRange2, rgW, oDict0, lift1, lift2, Opr.rd, rdAll, e_rl, Option.map_some, Option.map_none, e_pv, e_po, e_tb, e_ti, e_tn, e_tl, e_tt, e_add, e_addS, e_addL, e_addT, e_sub, e_mul, e_mod, e_fdiv, e_pow, e_neg, e_lt, e_le, e_gt, e_ge, e_eqI, e_lenT, e_lenL, e_lenS, e_lenR, e_tupL, e_tupT, e_intI, e_isiI, e_isiIB, e_isiT, e_isiS, e_isN, e_isI, e_isS, e_isT, e_sqT, e_sqL, e_sqS, wipeE, IL.envOf, List.map_cons, List.map_nil, List.length_cons, List.length_nil, Nat.zero_add, Nat.reduceSub, Nat.reduceAdd, List.replicate, List.cons_append, List.nil_append, List.set_cons_zero, List.set_cons_succ, List.getElem?_cons_zero, List.getElem?_cons_succ, List.getElem?_nil, restE, Option.join, Option.bind_some, Option.bind_none, id_eq, if_true, if_false, Bool.false_eq_true, Bool.not_true, Bool.not_false, Bool.bne_false, Bool.bne_true, reduceIte, Bool.true_bne, Bool.false_bne, and_true, true_and, fnW, oApp, ownL, oCall]
        refine i_take (by omega) (by omega) fun r _ _ => ?_
        simp only [sSeq, sNext, sRet, sRetN, sRetV, sSet, sIf, sDrop, sTgt, sPar, sNever, wTmps, setAll, sFor, gNm, IL.gTup, gEach, tTrue, tTru, tOf, tNotW, tAndW, tOrW, oAnd, oOr, oNotT, oIf, oChain, oTup, oLst, wArgs, oPrim, withOps, evOps, Opd.ev, oC, oVar, oSl, partEv, oMeth, isStrPV, oComp, oComp2, iSeq, iRange1, iRange2, rgW, oDict0, lift1, lift2, Opr.rd, rdAll, e_rl, Option.map_some, Option.map_none, e_pv, e_po, e_tb, e_ti, e_tn, e_tl, e_tt, e_add, e_addS, e_addL, e_addT, e_sub, e_mul, e_mod, e_fdiv, e_pow, e_neg, e_lt, e_le, e_gt, e_ge, e_eqI, e_lenT, e_lenL, e_lenS, e_lenR, e_tupL, e_tupT, e_intI, e_isiI, e_isiIB, e_isiT, e_isiS, e_isN, e_isI, e_isS, e_isT, e_sqT, e_sqL, e_sqS, wipeE, IL.envOf, List.map_cons, List.map_nil, List.length_cons, List.length_nil, Nat.zero_add, Nat.reduceSub, Nat.reduceAdd, List.replicate, List.cons_append, List.nil_append, List.set_cons_zero, List.set_cons_succ, List.getElem?_cons_zero, List.getElem?_cons_succ, List.getElem?_nil, restE, Option.join, Option.bind_some, Option.bind_none, id_eq, if_true, if_false, Bool.false_eq_true, Bool.not_true, Bool.not_false, Bool.bne_false, Bool.bne_true, reduceIte, Bool.true_bne, Bool.false_bne, and_true, true_and, fnW]
        by_cases h0 : (r == 0) = true
        · rw [h0]
          simp only [sSeq, sNext, sRet, sRetN, sRetV, sSet, sIf, sDrop, sTgt, sPar, sNever, wTmps, setAll, sFor, gNm, IL.gTup, gEach, tTrue, tTru, tOf, tNotW, tAndW, tOrW, oAnd, oOr, oNotT, oIf, oChain, oTup, oLst, wArgs, oPrim, withOps, evOps, Opd.ev, oC, oVar, oSl, partEv, oMeth, isStrPV, oComp, oComp2, iSeq, iRange1, iRange2, rgW, oDict0, lift1, lift2, Opr.rd, rdAll, e_rl, Option.map_some, Option.map_none, e_pv, e_po, e_tb, e_ti, e_tn, e_tl, e_tt, e_add, e_addS, e_addL, e_addT, e_sub, e_mul, e_mod, e_fdiv, e_pow, e_neg, e_lt, e_le, e_gt, e_ge, e_eqI, e_lenT, e_lenL, e_lenS, e_lenR, e_tupL, e_tupT, e_intI, e_isiI, e_isiIB, e_isiT, e_isiS, e_isN, e_isI, e_isS, e_isT, e_sqT, e_sqL, e_sqS, wipeE, IL.envOf, List.map_cons, List.map_nil, List.length_cons, List.length_nil, Nat.zero_add, Nat.reduceSub, Nat.reduceAdd, List.replicate, List.cons_append, List.nil_append, List.set_cons_zero, List.set_cons_succ, List.getElem?_cons_zero, List.getElem?_cons_succ, List.getElem?_nil, restE, Option.join, Option.bind_some, Option.bind_none, id_eq, if_true, if_false, Bool.false_eq_true, Bool.not_true, Bool.not_false, Bool.bne_false, Bool.bne_true, reduceIte, Bool.true_bne, Bool.false_bne, and_true, true_and, fnW, ownL]
          refine ⟨hl2, hK _ ⟨pre ++ [p], suf, fs ++ [p], _, _, by rw [h1]; simp, rfl, keep p rfl, by rw [List.map_append]; rfl⟩⟩
        · rw [Bool.not_eq_true] at h0
          rw [h0]
          simp only [sSeq, sNext, sRet, sRetN, sRetV, sSet, sIf, sDrop, sTgt, sPar, sNever, wTmps, setAll, sFor, gNm, IL.gTup, gEach, tTrue, tTru, tOf, tNotW, tAndW, tOrW, oAnd, oOr, oNotT, oIf, oChain, oTup, oLst, wArgs, oPrim, withOps, evOps, Opd.ev, oC, oVar, oSl, partEv, oMeth, isStrPV, oComp, oComp2, iSeq, iRange1, iRange2, rgW, oDict0, lift1, lift2, Opr.rd, rdAll, e_rl, Option.map_some, Option.map_none, e_pv, e_po, e_tb, e_ti, e_tn, e_tl, e_tt, e_add, e_addS, e_addL, e_addT, e_sub, e_mul, e_mod, e_fdiv, e_pow, e_neg, e_lt, e_le, e_gt, e_ge, e_eqI, e_lenT, e_lenL, e_lenS, e_lenR, e_tupL, e_tupT, e_intI, e_isiI, e_isiIB, e_isiT, e_isiS, e_isN, e_isI, e_isS, e_isT, e_sqT, e_sqL, e_sqS, wipeE, IL.envOf, List.map_cons, List.map_nil, List.length_cons, List.length_nil, Nat.zero_add, Nat.reduceSub, Nat.reduceAdd, List.replicate, List.cons_append, List.nil_append, List.set_cons_zero, List.set_cons_succ, List.getElem?_cons_zero, List.getElem?_cons_succ, List.getElem?_nil, restE, Option.join, Option.bind_some, Option.bind_none, id_eq, if_true, if_false, Bool.false_eq_true, Bool.not_true, Bool.not_false, Bool.bne_false, Bool.bne_true, reduceIte, Bool.true_bne, Bool.false_bne, and_true, true_and, fnW, ownL]
          refine ⟨hl2, hK _ ⟨pre ++ [p], suf, fs ++ [(p.2, p.1)], _, _, by rw [h1]; simp, rfl, keep _ (nrm_swap (by omega)), by rw [List.map_append]; rfl⟩⟩
      · rw [if_neg (by simpa using hr)]
        refine hK _ ⟨pre ++ [p], suf, fs, _, _, by rw [h1]; simp, rfl, ?_, rfl⟩
        rw [List.map_append]
        exact List.Sublist.trans h3 (List.sublist_append_left _ _)
end ILaw

namespace ILaw
open PySem PySem.Spec PyProof.Rows L2 IL TL
variable {Q : TV → Prop}
def rowOf (f : Nat → Nat) (m : Nat) : List PV := (List.range m).map fun i => iPV (f i)
theorem rowOf_id (m : Nat) : rangePV 0 m = rowOf id m := by
  unfold rangePV rowOf
  apply List.map_congr_left
  intro i _
  show PV.int (0 + (i : Int)) = .int (i : Nat)
  rw [Int.zero_add]
theorem rowOf_len {f : Nat → Nat} {m : Nat} : (rowOf f m).length = m := by simp [rowOf]
theorem rowOf_at {f : Nat → Nat} {m j : Nat} (h : j < m) : (rowOf f m)[j]? = some (iPV (f j)) := by
  unfold rowOf
  rw [List.getElem?_map, List.getElem?_range h]
  rfl
theorem rowOf_swap {f : Nat → Nat} {m j : Nat} (h : j < m) : ((rowOf f m).set j (iPV (f 0))).set 0 (iPV (f j)) = rowOf (fun i => f (swp j i)) m := by
  apply List.ext_getElem?
  intro k
  by_cases hk : k < m
  · rw [rowOf_at hk]
    by_cases h0 : k = 0
    · subst h0
      rw [List.getElem?_set_self (by rw [List.length_set, rowOf_len]; exact hk)]
      simp [swp]
    · rw [List.getElem?_set_ne (Ne.symm h0)]
      by_cases hj : k = j
      · subst hj
        rw [List.getElem?_set_self (by rw [rowOf_len]; exact hk)]
        simp [swp, h0]
      · rw [List.getElem?_set_ne (Ne.symm hj), rowOf_at hk]
        simp [swp, h0, hj]
  · rw [List.getElem?_eq_none (by rw [List.length_set, List.length_set, rowOf_len]; omega), List.getElem?_eq_none (by rw [rowOf_len]; omega)]
theorem i_results {m : Nat} (m1 : 1 ≤ m) (m8 : m ≤ 8) (h : ∀ ws, Good m ws → Q (.v (gPV m ws))) : F__law_results [.well, .int m] Q := by
  unfold F__law_results b__law_results
  simp only [sSeq, sNext, sRet, sRetN, sRetV, sSet, sIf, sDrop, sTgt, sPar, sNever, wTmps, setAll, sFor, gNm, IL.gTup, gEach, tTrue, tTru, tOf, tNotW, tAndW, tOrW, oAnd, oOr, oNotT, oIf, oChain, oTup, oLst, wArgs, oPrim, withOps, evOps, Opd.ev, oC, oVar, oSl, partEv, oMeth, isStrPV, oComp, oComp2, iSeq, iRange1, iRange2, rgW, oDict0, lift1, lift2, Opr.rd, rdAll, e_rl, Option.map_some, Option.map_none, e_pv, e_po, e_tb, e_ti, e_tn, e_tl, e_tt, e_add, e_addS, e_addL, e_addT, e_sub, e_mul, e_mod, e_fdiv, e_pow, e_neg, e_lt, e_le, e_gt, e_ge, e_eqI, e_lenT, e_lenL, e_lenS, e_lenR, e_tupL, e_tupT, e_intI, e_isiI, e_isiIB, e_isiT, e_isiS, e_isN, e_isI, e_isS, e_isT, e_sqT, e_sqL, e_sqS, wipeE, IL.envOf, List.map_cons, List.map_nil, List.length_cons, List.length_nil, Nat.zero_add, Nat.reduceSub, Nat.reduceAdd, List.replicate, List.cons_append, List.nil_append, List.set_cons_zero, List.set_cons_succ, List.getElem?_cons_zero, List.getElem?_cons_succ, List.getElem?_nil, restE, Option.join, Option.bind_some, Option.bind_none, id_eq, if_true, if_false, Bool.false_eq_true, Bool.not_true, Bool.not_false, Bool.bne_false, Bool.bne_true, reduceIte, Bool.true_bne, Bool.false_bne, and_true, true_and, fnW, oCall]
  refine i_take (by omega) (by omega) fun way _ _ => ?_
  refine ⟨⟨by omega, by omega⟩, ?_⟩
  rw [Int.toNat_natCast]
  refine ⟨size_le (by rw [rangePV_len]; omega), ?_⟩
  try simp only [sSeq, sNext, sRet, sRetN, sRetV, sSet, sIf, sDrop, sTgt, sPar, sNever, wTmps, setAll, sFor, gNm, IL.gTup, gEach, tTrue, tTru, tOf, tNotW, tAndW, tOrW, oAnd, oOr, oNotT, oIf, oChain, oTup, oLst, wArgs, oPrim, withOps, evOps, Opd.ev, oC, oVar, oSl, partEv, oMeth, isStrPV, oComp, oComp2, iSeq, iRange1, iRange2, rgW, oDict0, lift1, lift2, Opr.rd, rdAll, e_rl, Option.map_some, Option.map_none, e_pv, e_po, e_tb, e_ti, e_tn, e_tl, e_tt, e_add, e_addS, e_addL, e_addT, e_sub, e_mul, e_mod, e_fdiv, e_pow, e_neg, e_lt, e_le, e_gt, e_ge, e_eqI, e_lenT, e_lenL, e_lenS, e_lenR, e_tupL, e_tupT, e_intI, e_isiI, e_isiIB, e_isiT, e_isiS, e_isN, e_isI, e_isS, e_isT, e_sqT, e_sqL, e_sqS, wipeE, IL.envOf, List.map_cons, List.map_nil, List.length_cons, List.length_nil, Nat.zero_add, Nat.reduceSub, Nat.reduceAdd, List.replicate, List.cons_append, List.nil_append, List.set_cons_zero, List.set_cons_succ, List.getElem?_cons_zero, List.getElem?_cons_succ, List.getElem?_nil, restE, Option.join, Option.bind_some, Option.bind_none, id_eq, if_true, if_false, Bool.false_eq_true, Bool.not_true, Bool.not_false, Bool.bne_false, Bool.bne_true, reduceIte, Bool.true_bne, Bool.false_bne, and_true, true_and, fnW]
  refine i_take (by omega) (by omega) fun cut _ _ => ?_
  simp only [sSeq, sNext, sRet, sRetN, sRetV, sSet, sIf, sDrop, sTgt, sPar, sNever, wTmps, setAll, sFor, gNm, IL.gTup, gEach, tTrue, tTru, tOf, tNotW, tAndW, tOrW, oAnd, oOr, oNotT, oIf, oChain, oTup, oLst, wArgs, oPrim, withOps, evOps, Opd.ev, oC, oVar, oSl, partEv, oMeth, isStrPV, oComp, oComp2, iSeq, iRange1, iRange2, rgW, oDict0, lift1, lift2, Opr.rd, rdAll, e_rl, Option.map_some, Option.map_none, e_pv, e_po, e_tb, e_ti, e_tn, e_tl, e_tt, e_add, e_addS, e_addL, e_addT, e_sub, e_mul, e_mod, e_fdiv, e_pow, e_neg, e_lt, e_le, e_gt, e_ge, e_eqI, e_lenT, e_lenL, e_lenS, e_lenR, e_tupL, e_tupT, e_intI, e_isiI, e_isiIB, e_isiT, e_isiS, e_isN, e_isI, e_isS, e_isT, e_sqT, e_sqL, e_sqS, wipeE, IL.envOf, List.map_cons, List.map_nil, List.length_cons, List.length_nil, Nat.zero_add, Nat.reduceSub, Nat.reduceAdd, List.replicate, List.cons_append, List.nil_append, List.set_cons_zero, List.set_cons_succ, List.getElem?_cons_zero, List.getElem?_cons_succ, List.getElem?_nil, restE, Option.join, Option.bind_some, Option.bind_none, id_eq, if_true, if_false, Bool.false_eq_true, Bool.not_true, Bool.not_false, Bool.bne_false, Bool.bne_true, reduceIte, Bool.true_bne, Bool.false_bne, and_true, true_and, fnW]
  refine ⟨⟨by omega, by omega⟩, ?_⟩
  rw [rowOf_id]
  refine wFor_inv (fun xs e => ∃ (f : Nat → Nat) (e6 e7 : Option TV), (∀ i, i < m → f i < m) ∧ (∀ i, i < m → ∀ j, j < m → f i = f j → i = j) ∧ e = [some (.v .well), some (.v (.int m)), some (.v (.int way)), some (.own (.lst [])), some (.own (.lst (rowOf f m))), some (.v (.int (1 + cut))), e6, e7, none, none]) (fun e ⟨f, e6, e7, hf, inj, he⟩ => ?_) ⟨id, none, none, fun _ z => z, fun _ _ _ _ z => z, rfl⟩ (fun x xs e ⟨f, e6, e7, hf, inj, he⟩ K hK => ?_)
  · subst he
    simp only [sSeq, sNext, sRet, sRetN, sRetV, sSet, sIf, sDrop, sTgt, sPar, sNever, wTmps, setAll, sFor, gNm, IL.gTup, gEach, tTrue, tTru, tOf, tNotW, tAndW, tOrW, oAnd, oOr, oNotT, oIf, oChain, oTup, oLst, wArgs, oPrim, withOps, evOps, Opd.ev, oC, oVar, oSl, partEv, oMeth, isStrPV, oComp, oComp2, iSeq, iRange1, iRange2, rgW, oDict0, lift1, lift2, Opr.rd, rdAll, e_rl, Option.map_some, Option.map_none, e_pv, e_po, e_tb, e_ti, e_tn, e_tl, e_tt, e_add, e_addS, e_addL, e_addT, e_sub, e_mul, e_mod, e_fdiv, e_pow, e_neg, e_lt, e_le, e_gt, e_ge, e_eqI, e_lenT, e_lenL, e_lenS, e_lenR, e_tupL, e_tupT, e_intI, e_isiI, e_isiIB, e_isiT, e_isiS, e_isN, e_isI, e_isS, e_isT, e_sqT, e_sqL, e_sqS, wipeE, IL.envOf, List.map_cons, List.map_nil, List.length_cons, List.length_nil, Nat.zero_add, Nat.reduceSub, Nat.reduceAdd, List.replicate, List.cons_append, List.nil_append, List.set_cons_zero, List.set_cons_succ, List.getElem?_cons_zero, List.getElem?_cons_succ, List.getElem?_nil, restE, Option.join, Option.bind_some, Option.bind_none, id_eq, if_true, if_false, Bool.false_eq_true, Bool.not_true, Bool.not_false, Bool.bne_false, Bool.bne_true, reduceIte, Bool.true_bne, Bool.false_bne, and_true, true_and, fnW]
    refine i_pairs m8 ?_
    simp only [sSeq, sNext, sRet, sRetN, sRetV, sSet, sIf, sDrop, sTgt, sPar, sNever, wTmps, setAll, sFor, gNm, IL.gTup, gEach, tTrue, tTru, tOf, tNotW, tAndW, tOrW, oAnd, oOr, oNotT, oIf, oChain, oTup, oLst, wArgs, oPrim, withOps, evOps, Opd.ev, oC, oVar, oSl, partEv, oMeth, isStrPV, oComp, oComp2, iSeq, iRange1, iRange2, rgW, oDict0, lift1, lift2, Opr.rd, rdAll, e_rl, Option.map_some, Option.map_none, e_pv, e_po, e_tb, e_ti, e_tn, e_tl, e_tt, e_add, e_addS, e_addL, e_addT, e_sub, e_mul, e_mod, e_fdiv, e_pow, e_neg, e_lt, e_le, e_gt, e_ge, e_eqI, e_lenT, e_lenL, e_lenS, e_lenR, e_tupL, e_tupT, e_intI, e_isiI, e_isiIB, e_isiT, e_isiS, e_isN, e_isI, e_isS, e_isT, e_sqT, e_sqL, e_sqS, wipeE, IL.envOf, List.map_cons, List.map_nil, List.length_cons, List.length_nil, Nat.zero_add, Nat.reduceSub, Nat.reduceAdd, List.replicate, List.cons_append, List.nil_append, List.set_cons_zero, List.set_cons_succ, List.getElem?_cons_zero, List.getElem?_cons_succ, List.getElem?_nil, restE, Option.join, Option.bind_some, Option.bind_none, id_eq, if_true, if_false, Bool.false_eq_true, Bool.not_true, Bool.not_false, Bool.bne_false, Bool.bne_true, reduceIte, Bool.true_bne, Bool.false_bne, and_true, true_and, fnW]
    refine wFor_inv (fun xs e => ∃ (pre suf fs : List (Nat × Nat)) (e6 e7 e8 e9 : Option TV), pairsL m = pre ++ suf ∧ xs = suf.map pPV ∧ (fs.map nrm).Sublist (pre.map fun p => nrm (f p.1, f p.2)) ∧ e = [some (.v .well), some (.v (.int m)), some (.v (.int way)), some (.own (.lst (fs.map pPV))), some (.own (.lst (rowOf f m))), some (.v (.int (1 + cut))), e6, e7, e8, e9]) (fun e ⟨pre, suf, fs, e6, e7, e8, e9, h1, h2, h3, he⟩ => ?_) ⟨[], _, [], _, _, _, _, rfl, rfl, List.Sublist.slnil, rfl⟩ (fun x xs e ⟨pre, suf, fs, e6, e7, e8, e9, h1, h2, h3, he⟩ K hK => ?_)
    · subst he
      have : suf = [] := List.map_eq_nil_iff.mp h2.symm
      subst this
      rw [List.append_nil] at h1
      subst h1
      simp only [sSeq, sNext, sRet, sRetN, sRetV, sSet, sIf, sDrop, sTgt, sPar, sNever, wTmps, setAll, sFor, gNm, IL.gTup, gEach, tTrue, tTru, tOf, tNotW, tAndW, tOrW, oAnd, oOr, oNotT, oIf, oChain, oTup, oLst, wArgs, oPrim, withOps, evOps, Opd.ev, oC, oVar, oSl, partEv, oMeth, isStrPV, oComp, oComp2, iSeq, iRange1, iRange2, rgW, oDict0, lift1, lift2, Opr.rd, rdAll, e_rl, Option.map_some, Option.map_none, e_pv, e_po, e_tb, e_ti, e_tn, e_tl, e_tt, e_add, e_addS, e_addL, e_addT, e_sub, e_mul, e_mod, e_fdiv, e_pow, e_neg, e_lt, e_le, e_gt, e_ge, e_eqI, e_lenT, e_lenL, e_lenS, e_lenR, e_tupL, e_tupT, e_intI, e_isiI, e_isiIB, e_isiT, e_isiS, e_isN, e_isI, e_isS, e_isT, e_sqT, e_sqL, e_sqS, wipeE, IL.envOf, List.map_cons, List.map_nil, List.length_cons, List.length_nil, Nat.zero_add, Nat.reduceSub, Nat.reduceAdd, List.replicate, List.cons_append, List.nil_append, List.set_cons_zero, List.set_cons_succ, List.getElem?_cons_zero, List.getElem?_cons_succ, List.getElem?_nil, restE, Option.join, Option.bind_some, Option.bind_none, id_eq, if_true, if_false, Bool.false_eq_true, Bool.not_true, Bool.not_false, Bool.bne_false, Bool.bne_true, reduceIte, Bool.true_bne, Bool.false_bne, and_true, true_and, fnW]
      refine pSorted_ws fun ws pm srt => ?_
      simp only [sSeq, sNext, sRet, sRetN, sRetV, sSet, sIf, sDrop, sTgt, sPar, sNever, wTmps, setAll, sFor, gNm, IL.gTup, gEach, tTrue, tTru, tOf, tNotW, tAndW, tOrW, oAnd, oOr, oNotT, oIf, oChain, oTup, oLst, wArgs, oPrim, withOps, evOps, Opd.ev, oC, oVar, oSl, partEv, oMeth, isStrPV, oComp, oComp2, iSeq, iRange1, iRange2, rgW, oDict0, lift1, lift2, Opr.rd, rdAll, e_rl, Option.map_some, Option.map_none, e_pv, e_po, e_tb, e_ti, e_tn, e_tl, e_tt, e_add, e_addS, e_addL, e_addT, e_sub, e_mul, e_mod, e_fdiv, e_pow, e_neg, e_lt, e_le, e_gt, e_ge, e_eqI, e_lenT, e_lenL, e_lenS, e_lenR, e_tupL, e_tupT, e_intI, e_isiI, e_isiIB, e_isiT, e_isiS, e_isN, e_isI, e_isS, e_isT, e_sqT, e_sqL, e_sqS, wipeE, IL.envOf, List.map_cons, List.map_nil, List.length_cons, List.length_nil, Nat.zero_add, Nat.reduceSub, Nat.reduceAdd, List.replicate, List.cons_append, List.nil_append, List.set_cons_zero, List.set_cons_succ, List.getElem?_cons_zero, List.getElem?_cons_succ, List.getElem?_nil, restE, Option.join, Option.bind_some, Option.bind_none, id_eq, if_true, if_false, Bool.false_eq_true, Bool.not_true, Bool.not_false, Bool.bne_false, Bool.bne_true, reduceIte, Bool.true_bne, Bool.false_bne, and_true, true_and, fnW]
      exact h ws (good_of_sel (r := f) m1 m8 hf inj h3 pm srt)
    · subst he
      cases suf with
      | nil => cases h2
      | cons p suf =>
        rw [List.map_cons] at h2
        injection h2 with h2 h4
        subst h2 h4
        have hp := mem_pairsL (show p ∈ pairsL m by rw [h1]; simp)
        have hlen : fs.length ≤ 28 := by
          have a := h3.length_le
          have b := (pairsL_small m8).2
          rw [h1] at b
          simp at a b
          omega
        have hl2 : (fs.map pPV).length < sizeLine := by
          have := size_le (n := fs.length + 1) (by omega)
          simp; omega
        have hne : f p.1 ≠ f p.2 := fun z => by have := inj _ (by omega) _ (by omega) z; omega
        have keep : ∀ q : Nat × Nat, nrm q = nrm (f p.1, f p.2) → ((fs ++ [q]).map nrm).Sublist ((pre ++ [p]).map fun p => nrm (f p.1, f p.2)) := fun q hq => by
          rw [List.map_append, List.map_append]
          refine List.Sublist.append h3 ?_
          show [nrm q].Sublist [nrm (f p.1, f p.2)]
          rw [hq]
          exact List.Sublist.refl _
        have h1' : pairsL m = (pre ++ [p]) ++ suf := by rw [h1]; simp
        have at1 : atI (rowOf f m) (p.1 : Int) = some (iPV (f p.1)) := atI_at rfl (rowOf_at (by omega))
        have at2 : atI (rowOf f m) (p.2 : Int) = some (iPV (f p.2)) := atI_at rfl (rowOf_at (by omega))
        simp only [sSeq, sNext, sRet, sRetN, sRetV, sSet, sIf, sDrop, sTgt, sPar, sNever, wTmps, setAll, sFor, gNm, IL.gTup, gEach, tTrue, tTru, tOf, tNotW, tAndW, tOrW, oAnd, oOr, oNotT, oIf, oChain, oTup, oLst, wArgs, oPrim, withOps, evOps, Opd.ev, oC, oVar, oSl, partEv, oMeth, isStrPV, oComp, oComp2, iSeq, iRange1, iRange2, rgW, oDict0, lift1, lift2, Opr.rd, rdAll, e_rl, Option.map_some, Option.map_none, e_pv, e_po, e_tb, e_ti, e_tn, e_tl, e_tt, e_add, e_addS, e_addL, e_addT, e_sub, e_mul, e_mod, e_fdiv, e_pow, e_neg, e_lt, e_le, e_gt, e_ge, e_eqI, e_lenT, e_lenL, e_lenS, e_lenR, e_tupL, e_tupT, e_intI, e_isiI, e_isiIB, e_isiT, e_isiS, e_isN, e_isI, e_isS, e_isT, e_sqT, e_sqL, e_sqS, wipeE, IL.envOf, List.map_cons, List.map_nil, List.length_cons, List.length_nil, Nat.zero_add, Nat.reduceSub, Nat.reduceAdd, List.replicate, List.cons_append, List.nil_append, List.set_cons_zero, List.set_cons_succ, List.getElem?_cons_zero, List.getElem?_cons_succ, List.getElem?_nil, restE, Option.join, Option.bind_some, Option.bind_none, id_eq, if_true, if_false, Bool.false_eq_true, Bool.not_true, Bool.not_false, Bool.bne_false, Bool.bne_true, reduceIte, Bool.true_bne, Bool.false_bne, and_true, true_and, fnW, oCall, pPV]
        refine i_take (by omega) (by omega) fun r _ _ => ?_
        simp only [sSeq, sNext, sRet, sRetN, sRetV, sSet, sIf, sDrop, sTgt, sPar, sNever, wTmps, setAll, sFor, gNm, IL.gTup, gEach, tTrue, tTru, tOf, tNotW, tAndW, tOrW, oAnd, oOr, oNotT, oIf, oChain, oTup, oLst, wArgs, oPrim, withOps, evOps, Opd.ev, oC, oVar, oSl, partEv, oMeth, isStrPV, oComp, oComp2, iSeq, iRange1, iRange2, rgW, oDict0, lift1, lift2, Opr.rd, rdAll, e_rl, Option.map_some, Option.map_none, e_pv, e_po, e_tb, e_ti, e_tn, e_tl, e_tt, e_add, e_addS, e_addL, e_addT, e_sub, e_mul, e_mod, e_fdiv, e_pow, e_neg, e_lt, e_le, e_gt, e_ge, e_eqI, e_lenT, e_lenL, e_lenS, e_lenR, e_tupL, e_tupT, e_intI, e_isiI, e_isiIB, e_isiT, e_isiS, e_isN, e_isI, e_isS, e_isT, e_sqT, e_sqL, e_sqS, wipeE, IL.envOf, List.map_cons, List.map_nil, List.length_cons, List.length_nil, Nat.zero_add, Nat.reduceSub, Nat.reduceAdd, List.replicate, List.cons_append, List.nil_append, List.set_cons_zero, List.set_cons_succ, List.getElem?_cons_zero, List.getElem?_cons_succ, List.getElem?_nil, restE, Option.join, Option.bind_some, Option.bind_none, id_eq, if_true, if_false, Bool.false_eq_true, Bool.not_true, Bool.not_false, Bool.bne_false, Bool.bne_true, reduceIte, Bool.true_bne, Bool.false_bne, and_true, true_and, fnW]
        have leaf : ∀ (b : Bool) (z7 z8 : TV), z7 = .v (.int p.1) → z8 = .v (.int p.2) → oApp 3 (oIf (tTru (Opd.sl 9)) (oTup [oPrim (lift2 pIx) [Opd.sl 4, Opd.sl 8], oPrim (lift2 pIx) [Opd.sl 4, Opd.sl 7]]) (oTup [oPrim (lift2 pIx) [Opd.sl 4, Opd.sl 7], oPrim (lift2 pIx) [Opd.sl 4, Opd.sl 8]])) [some (.v .well), some (.v (.int m)), some (.v (.int way)), some (.own (.lst (fs.map pPV))), some (.own (.lst (rowOf f m))), some (.v (.int (1 + cut))), e6, some z7, some z8, some (.v (.bl b))] (fun _ e2 => K e2) := by
          intro b z7 z8 h7 h8
          subst h7 h8
          cases b
          · simp only [sSeq, sNext, sRet, sRetN, sRetV, sSet, sIf, sDrop, sTgt, sPar, sNever, wTmps, setAll, sFor, gNm, IL.gTup, gEach, tTrue, tTru, tOf, tNotW, tAndW, tOrW, oAnd, oOr, oNotT, oIf, oChain, oTup, oLst, wArgs, oPrim, withOps, evOps, Opd.ev, oC, oVar, oSl, partEv, oMeth, isStrPV, oComp, oComp2, iSeq, iRange1, iRange2, rgW, oDict0, lift1, lift2, Opr.rd, rdAll, e_rl, Option.map_some, Option.map_none, e_pv, e_po, e_tb, e_ti, e_tn, e_tl, e_tt, e_add, e_addS, e_addL, e_addT, e_sub, e_mul, e_mod, e_fdiv, e_pow, e_neg, e_lt, e_le, e_gt, e_ge, e_eqI, e_lenT, e_lenL, e_lenS, e_lenR, e_tupL, e_tupT, e_intI, e_isiI, e_isiIB, e_isiT, e_isiS, e_isN, e_isI, e_isS, e_isT, e_sqT, e_sqL, e_sqS, wipeE, IL.envOf, List.map_cons, List.map_nil, List.length_cons, List.length_nil, Nat.zero_add, Nat.reduceSub, Nat.reduceAdd, List.replicate, List.cons_append, List.nil_append, List.set_cons_zero, List.set_cons_succ, List.getElem?_cons_zero, List.getElem?_cons_succ, List.getElem?_nil, restE, Option.join, Option.bind_some, Option.bind_none, id_eq, if_true, if_false, Bool.false_eq_true, Bool.not_true, Bool.not_false, Bool.bne_false, Bool.bne_true, reduceIte, Bool.true_bne, Bool.false_bne, and_true, true_and, fnW, oApp, ownL]
            refine pIx_lst at1 ?_
            refine pIx_lst at2 ?_
            simp only [sSeq, sNext, sRet, sRetN, sRetV, sSet, sIf, sDrop, sTgt, sPar, sNever, wTmps, setAll, sFor, gNm, IL.gTup, gEach, tTrue, tTru, tOf, tNotW, tAndW, tOrW, oAnd, oOr, oNotT, oIf, oChain, oTup, oLst, wArgs, oPrim, withOps, evOps, Opd.ev, oC, oVar, oSl, partEv, oMeth, isStrPV, oComp, oComp2, iSeq, iRange1, iRange2, rgW, oDict0, lift1, lift2, Opr.rd, rdAll, e_rl, Option.map_some, Option.map_none, e_pv, e_po, e_tb, e_ti, e_tn, e_tl, e_tt, e_add, e_addS, e_addL, e_addT, e_sub, e_mul, e_mod, e_fdiv, e_pow, e_neg, e_lt, e_le, e_gt, e_ge, e_eqI, e_lenT, e_lenL, e_lenS, e_lenR, e_tupL, e_tupT, e_intI, e_isiI, e_isiIB, e_isiT, e_isiS, e_isN, e_isI, e_isS, e_isT, e_sqT, e_sqL, e_sqS, wipeE, IL.envOf, List.map_cons, List.map_nil, List.length_cons, List.length_nil, Nat.zero_add, Nat.reduceSub, Nat.reduceAdd, List.replicate, List.cons_append, List.nil_append, List.set_cons_zero, List.set_cons_succ, List.getElem?_cons_zero, List.getElem?_cons_succ, List.getElem?_nil, restE, Option.join, Option.bind_some, Option.bind_none, id_eq, if_true, if_false, Bool.false_eq_true, Bool.not_true, Bool.not_false, Bool.bne_false, Bool.bne_true, reduceIte, Bool.true_bne, Bool.false_bne, and_true, true_and, fnW, ownL]
            exact ⟨hl2, hK _ ⟨pre ++ [p], suf, fs ++ [(f p.1, f p.2)], _, _, _, _, h1', rfl, keep _ rfl, by rw [List.map_append]; rfl⟩⟩
          · simp only [sSeq, sNext, sRet, sRetN, sRetV, sSet, sIf, sDrop, sTgt, sPar, sNever, wTmps, setAll, sFor, gNm, IL.gTup, gEach, tTrue, tTru, tOf, tNotW, tAndW, tOrW, oAnd, oOr, oNotT, oIf, oChain, oTup, oLst, wArgs, oPrim, withOps, evOps, Opd.ev, oC, oVar, oSl, partEv, oMeth, isStrPV, oComp, oComp2, iSeq, iRange1, iRange2, rgW, oDict0, lift1, lift2, Opr.rd, rdAll, e_rl, Option.map_some, Option.map_none, e_pv, e_po, e_tb, e_ti, e_tn, e_tl, e_tt, e_add, e_addS, e_addL, e_addT, e_sub, e_mul, e_mod, e_fdiv, e_pow, e_neg, e_lt, e_le, e_gt, e_ge, e_eqI, e_lenT, e_lenL, e_lenS, e_lenR, e_tupL, e_tupT, e_intI, e_isiI, e_isiIB, e_isiT, e_isiS, e_isN, e_isI, e_isS, e_isT, e_sqT, e_sqL, e_sqS, wipeE, IL.envOf, List.map_cons, List.map_nil, List.length_cons, List.length_nil, Nat.zero_add, Nat.reduceSub, Nat.reduceAdd, List.replicate, List.cons_append, List.nil_append, List.set_cons_zero, List.set_cons_succ, List.getElem?_cons_zero, List.getElem?_cons_succ, List.getElem?_nil, restE, Option.join, Option.bind_some, Option.bind_none, id_eq, if_true, if_false, Bool.false_eq_true, Bool.not_true, Bool.not_false, Bool.bne_false, Bool.bne_true, reduceIte, Bool.true_bne, Bool.false_bne, and_true, true_and, fnW, oApp, ownL]
            refine pIx_lst at2 ?_
            refine pIx_lst at1 ?_
            simp only [sSeq, sNext, sRet, sRetN, sRetV, sSet, sIf, sDrop, sTgt, sPar, sNever, wTmps, setAll, sFor, gNm, IL.gTup, gEach, tTrue, tTru, tOf, tNotW, tAndW, tOrW, oAnd, oOr, oNotT, oIf, oChain, oTup, oLst, wArgs, oPrim, withOps, evOps, Opd.ev, oC, oVar, oSl, partEv, oMeth, isStrPV, oComp, oComp2, iSeq, iRange1, iRange2, rgW, oDict0, lift1, lift2, Opr.rd, rdAll, e_rl, Option.map_some, Option.map_none, e_pv, e_po, e_tb, e_ti, e_tn, e_tl, e_tt, e_add, e_addS, e_addL, e_addT, e_sub, e_mul, e_mod, e_fdiv, e_pow, e_neg, e_lt, e_le, e_gt, e_ge, e_eqI, e_lenT, e_lenL, e_lenS, e_lenR, e_tupL, e_tupT, e_intI, e_isiI, e_isiIB, e_isiT, e_isiS, e_isN, e_isI, e_isS, e_isT, e_sqT, e_sqL, e_sqS, wipeE, IL.envOf, List.map_cons, List.map_nil, List.length_cons, List.length_nil, Nat.zero_add, Nat.reduceSub, Nat.reduceAdd, List.replicate, List.cons_append, List.nil_append, List.set_cons_zero, List.set_cons_succ, List.getElem?_cons_zero, List.getElem?_cons_succ, List.getElem?_nil, restE, Option.join, Option.bind_some, Option.bind_none, id_eq, if_true, if_false, Bool.false_eq_true, Bool.not_true, Bool.not_false, Bool.bne_false, Bool.bne_true, reduceIte, Bool.true_bne, Bool.false_bne, and_true, true_and, fnW, ownL]
            exact ⟨hl2, hK _ ⟨pre ++ [p], suf, fs ++ [(f p.2, f p.1)], _, _, _, _, h1', rfl, keep _ (nrm_swap (p := (f p.1, f p.2)) hne), by rw [List.map_append]; rfl⟩⟩
        split
        · refine i_take (by omega) (by omega) fun r _ _ => ?_
          try simp only [sSeq, sNext, sRet, sRetN, sRetV, sSet, sIf, sDrop, sTgt, sPar, sNever, wTmps, setAll, sFor, gNm, IL.gTup, gEach, tTrue, tTru, tOf, tNotW, tAndW, tOrW, oAnd, oOr, oNotT, oIf, oChain, oTup, oLst, wArgs, oPrim, withOps, evOps, Opd.ev, oC, oVar, oSl, partEv, oMeth, isStrPV, oComp, oComp2, iSeq, iRange1, iRange2, rgW, oDict0, lift1, lift2, Opr.rd, rdAll, e_rl, Option.map_some, Option.map_none, e_pv, e_po, e_tb, e_ti, e_tn, e_tl, e_tt, e_add, e_addS, e_addL, e_addT, e_sub, e_mul, e_mod, e_fdiv, e_pow, e_neg, e_lt, e_le, e_gt, e_ge, e_eqI, e_lenT, e_lenL, e_lenS, e_lenR, e_tupL, e_tupT, e_intI, e_isiI, e_isiIB, e_isiT, e_isiS, e_isN, e_isI, e_isS, e_isT, e_sqT, e_sqL, e_sqS, wipeE, IL.envOf, List.map_cons, List.map_nil, List.length_cons, List.length_nil, Nat.zero_add, Nat.reduceSub, Nat.reduceAdd, List.replicate, List.cons_append, List.nil_append, List.set_cons_zero, List.set_cons_succ, List.getElem?_cons_zero, List.getElem?_cons_succ, List.getElem?_nil, restE, Option.join, Option.bind_some, Option.bind_none, id_eq, if_true, if_false, Bool.false_eq_true, Bool.not_true, Bool.not_false, Bool.bne_false, Bool.bne_true, reduceIte, Bool.true_bne, Bool.false_bne, and_true, true_and, fnW]
          (repeat' split) <;> first | exact leaf _ _ _ rfl rfl | exact ⟨.inr (.inl ⟨by omega, by omega⟩), leaf _ _ _ rfl rfl⟩
        · (repeat' split) <;> first | exact leaf _ _ _ rfl rfl | exact ⟨.inr (.inl ⟨by omega, by omega⟩), leaf _ _ _ rfl rfl⟩
  · subst he
    simp only [sSeq, sNext, sRet, sRetN, sRetV, sSet, sIf, sDrop, sTgt, sPar, sNever, wTmps, setAll, sFor, gNm, IL.gTup, gEach, tTrue, tTru, tOf, tNotW, tAndW, tOrW, oAnd, oOr, oNotT, oIf, oChain, oTup, oLst, wArgs, oPrim, withOps, evOps, Opd.ev, oC, oVar, oSl, partEv, oMeth, isStrPV, oComp, oComp2, iSeq, iRange1, iRange2, rgW, oDict0, lift1, lift2, Opr.rd, rdAll, e_rl, Option.map_some, Option.map_none, e_pv, e_po, e_tb, e_ti, e_tn, e_tl, e_tt, e_add, e_addS, e_addL, e_addT, e_sub, e_mul, e_mod, e_fdiv, e_pow, e_neg, e_lt, e_le, e_gt, e_ge, e_eqI, e_lenT, e_lenL, e_lenS, e_lenR, e_tupL, e_tupT, e_intI, e_isiI, e_isiIB, e_isiT, e_isiS, e_isN, e_isI, e_isS, e_isT, e_sqT, e_sqL, e_sqS, wipeE, IL.envOf, List.map_cons, List.map_nil, List.length_cons, List.length_nil, Nat.zero_add, Nat.reduceSub, Nat.reduceAdd, List.replicate, List.cons_append, List.nil_append, List.set_cons_zero, List.set_cons_succ, List.getElem?_cons_zero, List.getElem?_cons_succ, List.getElem?_nil, restE, Option.join, Option.bind_some, Option.bind_none, id_eq, if_true, if_false, Bool.false_eq_true, Bool.not_true, Bool.not_false, Bool.bne_false, Bool.bne_true, reduceIte, Bool.true_bne, Bool.false_bne, and_true, true_and, fnW, oCall]
    refine i_take (by omega) (by omega) fun r r0 r1 => ?_
    obtain ⟨j, rfl⟩ := Int.eq_ofNat_of_zero_le r0
    have hj : j < m := by omega
    simp only [sSeq, sNext, sRet, sRetN, sRetV, sSet, sIf, sDrop, sTgt, sPar, sNever, wTmps, setAll, sFor, gNm, IL.gTup, gEach, tTrue, tTru, tOf, tNotW, tAndW, tOrW, oAnd, oOr, oNotT, oIf, oChain, oTup, oLst, wArgs, oPrim, withOps, evOps, Opd.ev, oC, oVar, oSl, partEv, oMeth, isStrPV, oComp, oComp2, iSeq, iRange1, iRange2, rgW, oDict0, lift1, lift2, Opr.rd, rdAll, e_rl, Option.map_some, Option.map_none, e_pv, e_po, e_tb, e_ti, e_tn, e_tl, e_tt, e_add, e_addS, e_addL, e_addT, e_sub, e_mul, e_mod, e_fdiv, e_pow, e_neg, e_lt, e_le, e_gt, e_ge, e_eqI, e_lenT, e_lenL, e_lenS, e_lenR, e_tupL, e_tupT, e_intI, e_isiI, e_isiIB, e_isiT, e_isiS, e_isN, e_isI, e_isS, e_isT, e_sqT, e_sqL, e_sqS, wipeE, IL.envOf, List.map_cons, List.map_nil, List.length_cons, List.length_nil, Nat.zero_add, Nat.reduceSub, Nat.reduceAdd, List.replicate, List.cons_append, List.nil_append, List.set_cons_zero, List.set_cons_succ, List.getElem?_cons_zero, List.getElem?_cons_succ, List.getElem?_nil, restE, Option.join, Option.bind_some, Option.bind_none, id_eq, if_true, if_false, Bool.false_eq_true, Bool.not_true, Bool.not_false, Bool.bne_false, Bool.bne_true, reduceIte, Bool.true_bne, Bool.false_bne, and_true, true_and, fnW]
    refine pIx_lst (atI_at (j := 0) rfl (rowOf_at (by omega))) ?_
    refine pIx_lst (atI_at (j := j) rfl (rowOf_at hj)) ?_
    simp only [sSeq, sNext, sRet, sRetN, sRetV, sSet, sIf, sDrop, sTgt, sPar, sNever, wTmps, setAll, sFor, gNm, IL.gTup, gEach, tTrue, tTru, tOf, tNotW, tAndW, tOrW, oAnd, oOr, oNotT, oIf, oChain, oTup, oLst, wArgs, oPrim, withOps, evOps, Opd.ev, oC, oVar, oSl, partEv, oMeth, isStrPV, oComp, oComp2, iSeq, iRange1, iRange2, rgW, oDict0, lift1, lift2, Opr.rd, rdAll, e_rl, Option.map_some, Option.map_none, e_pv, e_po, e_tb, e_ti, e_tn, e_tl, e_tt, e_add, e_addS, e_addL, e_addT, e_sub, e_mul, e_mod, e_fdiv, e_pow, e_neg, e_lt, e_le, e_gt, e_ge, e_eqI, e_lenT, e_lenL, e_lenS, e_lenR, e_tupL, e_tupT, e_intI, e_isiI, e_isiIB, e_isiT, e_isiS, e_isN, e_isI, e_isS, e_isT, e_sqT, e_sqL, e_sqS, wipeE, IL.envOf, List.map_cons, List.map_nil, List.length_cons, List.length_nil, Nat.zero_add, Nat.reduceSub, Nat.reduceAdd, List.replicate, List.cons_append, List.nil_append, List.set_cons_zero, List.set_cons_succ, List.getElem?_cons_zero, List.getElem?_cons_succ, List.getElem?_nil, restE, Option.join, Option.bind_some, Option.bind_none, id_eq, if_true, if_false, Bool.false_eq_true, Bool.not_true, Bool.not_false, Bool.bne_false, Bool.bne_true, reduceIte, Bool.true_bne, Bool.false_bne, and_true, true_and, fnW, gPut, ownA]
    have i0 : ixN m 0 = some 0 := ixN_nat (j := 0) (by omega)
    simp only [sSeq, sNext, sRet, sRetN, sRetV, sSet, sIf, sDrop, sTgt, sPar, sNever, wTmps, setAll, sFor, gNm, IL.gTup, gEach, tTrue, tTru, tOf, tNotW, tAndW, tOrW, oAnd, oOr, oNotT, oIf, oChain, oTup, oLst, wArgs, oPrim, withOps, evOps, Opd.ev, oC, oVar, oSl, partEv, oMeth, isStrPV, oComp, oComp2, iSeq, iRange1, iRange2, rgW, oDict0, lift1, lift2, Opr.rd, rdAll, e_rl, Option.map_some, Option.map_none, e_pv, e_po, e_tb, e_ti, e_tn, e_tl, e_tt, e_add, e_addS, e_addL, e_addT, e_sub, e_mul, e_mod, e_fdiv, e_pow, e_neg, e_lt, e_le, e_gt, e_ge, e_eqI, e_lenT, e_lenL, e_lenS, e_lenR, e_tupL, e_tupT, e_intI, e_isiI, e_isiIB, e_isiT, e_isiS, e_isN, e_isI, e_isS, e_isT, e_sqT, e_sqL, e_sqS, wipeE, IL.envOf, List.map_cons, List.map_nil, List.length_cons, List.length_nil, Nat.zero_add, Nat.reduceSub, Nat.reduceAdd, List.replicate, List.cons_append, List.nil_append, List.set_cons_zero, List.set_cons_succ, List.getElem?_cons_zero, List.getElem?_cons_succ, List.getElem?_nil, restE, Option.join, Option.bind_some, Option.bind_none, id_eq, if_true, if_false, Bool.false_eq_true, Bool.not_true, Bool.not_false, Bool.bne_false, Bool.bne_true, reduceIte, Bool.true_bne, Bool.false_bne, and_true, true_and, fnW, roomPV, putPV, rowOf_len, ixN_nat hj, List.length_set, i0, rowOf_swap hj]
    exact hK _ ⟨fun i => f (swp j i), _, _, fun i hi => hf _ (swp_lt hj hi), fun i hi k hk z => swp_inj (inj _ (swp_lt hj hi) _ (swp_lt hj hk) z), rfl⟩
end ILaw

namespace ILaw
open PySem PySem.Spec PyProof.Rows L2 IL TL
variable {Q : TV → Prop}
def selPV (k : Int) : PV → List PV
  | .tup [.int a, _] => if (a == k) = true then [.int 1] else []
  | _ => []
def cntPV (ws : List (Nat × Nat)) : PV → PV
  | .int i => .int (cnt ws i.toNat)
  | _ => .non
theorem sel_len (k : Nat) : ∀ ws : List (Nat × Nat), ((ws.map pPV).flatMap (selPV k)).length = cnt ws k
  | [] => rfl
  | p :: ws => by
    have ih := sel_len k ws
    unfold cnt at ih ⊢
    rw [List.map_cons, List.flatMap_cons, List.length_append, ih, List.countP_cons]
    show (if (((p.1 : Nat) : Int) == (k : Int)) = true then [PV.int 1] else []).length + _ = _
    by_cases h : p.1 = k
    · have e1 : (((p.1 : Nat) : Int) == (k : Int)) = true := beq_iff_eq.mpr (by omega)
      have e2 : (p.1 == k) = true := beq_iff_eq.mpr h
      rw [if_pos e1, if_pos e2, List.length_cons, List.length_nil]
      omega
    · have e1 : ¬ (((p.1 : Nat) : Int) == (k : Int)) = true := fun z => h (by have := beq_iff_eq.mp z; omega)
      have e2 : ¬ (p.1 == k) = true := fun z => h (beq_iff_eq.mp z)
      rw [if_neg e1, if_neg e2, List.length_nil]
      omega
theorem pLen_lst {xs : List PV} (q : Q (.v (.int xs.length))) : pLen (.lst xs) Q := q
theorem i_law_points {m : Nat} {ws : List (Nat × Nat)} (g : Good m ws) (h : Q (.v (.tup ((pointsL m ws).map iPV)))) : F__law_points [gPV m ws] Q := by
  have hL : (ws.map pPV).length ≤ 64 := by simpa using g.len
  have m8 := g.m8
  unfold F__law_points b__law_points
  simp only [sSeq, sNext, sRet, sRetN, sRetV, sSet, sIf, sDrop, sTgt, sPar, sNever, wTmps, setAll, sFor, gNm, IL.gTup, gEach, tTrue, tTru, tOf, tNotW, tAndW, tOrW, oAnd, oOr, oNotT, oIf, oChain, oTup, oLst, wArgs, oPrim, withOps, evOps, Opd.ev, oC, oVar, oSl, partEv, oMeth, isStrPV, oComp, oComp2, iSeq, iRange1, iRange2, rgW, oDict0, lift1, lift2, Opr.rd, rdAll, e_rl, Option.map_some, Option.map_none, e_pv, e_po, e_tb, e_ti, e_tn, e_tl, e_tt, e_add, e_addS, e_addL, e_addT, e_sub, e_mul, e_mod, e_fdiv, e_pow, e_neg, e_lt, e_le, e_gt, e_ge, e_eqI, e_lenT, e_lenL, e_lenS, e_lenR, e_tupL, e_tupT, e_intI, e_isiI, e_isiIB, e_isiT, e_isiS, e_isN, e_isI, e_isS, e_isT, e_sqT, e_sqL, e_sqS, wipeE, IL.envOf, List.map_cons, List.map_nil, List.length_cons, List.length_nil, Nat.zero_add, Nat.reduceSub, Nat.reduceAdd, List.replicate, List.cons_append, List.nil_append, List.set_cons_zero, List.set_cons_succ, List.getElem?_cons_zero, List.getElem?_cons_succ, List.getElem?_nil, restE, Option.join, Option.bind_some, Option.bind_none, id_eq, if_true, if_false, Bool.false_eq_true, Bool.not_true, Bool.not_false, Bool.bne_false, Bool.bne_true, reduceIte, Bool.true_bne, Bool.false_bne, and_true, true_and, fnW]
  refine pIx_tup0 ?_
  simp only [sSeq, sNext, sRet, sRetN, sRetV, sSet, sIf, sDrop, sTgt, sPar, sNever, wTmps, setAll, sFor, gNm, IL.gTup, gEach, tTrue, tTru, tOf, tNotW, tAndW, tOrW, oAnd, oOr, oNotT, oIf, oChain, oTup, oLst, wArgs, oPrim, withOps, evOps, Opd.ev, oC, oVar, oSl, partEv, oMeth, isStrPV, oComp, oComp2, iSeq, iRange1, iRange2, rgW, oDict0, lift1, lift2, Opr.rd, rdAll, e_rl, Option.map_some, Option.map_none, e_pv, e_po, e_tb, e_ti, e_tn, e_tl, e_tt, e_add, e_addS, e_addL, e_addT, e_sub, e_mul, e_mod, e_fdiv, e_pow, e_neg, e_lt, e_le, e_gt, e_ge, e_eqI, e_lenT, e_lenL, e_lenS, e_lenR, e_tupL, e_tupT, e_intI, e_isiI, e_isiIB, e_isiT, e_isiS, e_isN, e_isI, e_isS, e_isT, e_sqT, e_sqL, e_sqS, wipeE, IL.envOf, List.map_cons, List.map_nil, List.length_cons, List.length_nil, Nat.zero_add, Nat.reduceSub, Nat.reduceAdd, List.replicate, List.cons_append, List.nil_append, List.set_cons_zero, List.set_cons_succ, List.getElem?_cons_zero, List.getElem?_cons_succ, List.getElem?_nil, restE, Option.join, Option.bind_some, Option.bind_none, id_eq, if_true, if_false, Bool.false_eq_true, Bool.not_true, Bool.not_false, Bool.bne_false, Bool.bne_true, reduceIte, Bool.true_bne, Bool.false_bne, and_true, true_and, fnW]
  refine ⟨⟨by omega, by omega⟩, ?_⟩
  rw [Int.toNat_natCast]
  refine ⟨size_le (by rw [rangePV_len]; omega), rfl, ?_⟩
  refine wComp_map (cntPV ws) (fun x hx K acc hk => ?_) ?_
  · obtain ⟨i, hi, rfl⟩ := rangePV_mem hx
    rw [Int.zero_add] at hk ⊢
    have hk : K (acc ++ [.int (cnt ws i)]) [some (.v (gPV m ws)), none, none, none] := by simpa [cntPV, Int.toNat_natCast] using hk
    simp only [sSeq, sNext, sRet, sRetN, sRetV, sSet, sIf, sDrop, sTgt, sPar, sNever, wTmps, setAll, sFor, gNm, IL.gTup, gEach, tTrue, tTru, tOf, tNotW, tAndW, tOrW, oAnd, oOr, oNotT, oIf, oChain, oTup, oLst, wArgs, oPrim, withOps, evOps, Opd.ev, oC, oVar, oSl, partEv, oMeth, isStrPV, oComp, oComp2, iSeq, iRange1, iRange2, rgW, oDict0, lift1, lift2, Opr.rd, rdAll, e_rl, Option.map_some, Option.map_none, e_pv, e_po, e_tb, e_ti, e_tn, e_tl, e_tt, e_add, e_addS, e_addL, e_addT, e_sub, e_mul, e_mod, e_fdiv, e_pow, e_neg, e_lt, e_le, e_gt, e_ge, e_eqI, e_lenT, e_lenL, e_lenS, e_lenR, e_tupL, e_tupT, e_intI, e_isiI, e_isiIB, e_isiT, e_isiS, e_isN, e_isI, e_isS, e_isT, e_sqT, e_sqL, e_sqS, wipeE, IL.envOf, List.map_cons, List.map_nil, List.length_cons, List.length_nil, Nat.zero_add, Nat.reduceSub, Nat.reduceAdd, List.replicate, List.cons_append, List.nil_append, List.set_cons_zero, List.set_cons_succ, List.getElem?_cons_zero, List.getElem?_cons_succ, List.getElem?_nil, restE, Option.join, Option.bind_some, Option.bind_none, id_eq, if_true, if_false, Bool.false_eq_true, Bool.not_true, Bool.not_false, Bool.bne_false, Bool.bne_true, reduceIte, Bool.true_bne, Bool.false_bne, and_true, true_and, fnW]
    refine pIx_tup1 ?_
    simp only [sSeq, sNext, sRet, sRetN, sRetV, sSet, sIf, sDrop, sTgt, sPar, sNever, wTmps, setAll, sFor, gNm, IL.gTup, gEach, tTrue, tTru, tOf, tNotW, tAndW, tOrW, oAnd, oOr, oNotT, oIf, oChain, oTup, oLst, wArgs, oPrim, withOps, evOps, Opd.ev, oC, oVar, oSl, partEv, oMeth, isStrPV, oComp, oComp2, iSeq, iRange1, iRange2, rgW, oDict0, lift1, lift2, Opr.rd, rdAll, e_rl, Option.map_some, Option.map_none, e_pv, e_po, e_tb, e_ti, e_tn, e_tl, e_tt, e_add, e_addS, e_addL, e_addT, e_sub, e_mul, e_mod, e_fdiv, e_pow, e_neg, e_lt, e_le, e_gt, e_ge, e_eqI, e_lenT, e_lenL, e_lenS, e_lenR, e_tupL, e_tupT, e_intI, e_isiI, e_isiIB, e_isiT, e_isiS, e_isN, e_isI, e_isS, e_isT, e_sqT, e_sqL, e_sqS, wipeE, IL.envOf, List.map_cons, List.map_nil, List.length_cons, List.length_nil, Nat.zero_add, Nat.reduceSub, Nat.reduceAdd, List.replicate, List.cons_append, List.nil_append, List.set_cons_zero, List.set_cons_succ, List.getElem?_cons_zero, List.getElem?_cons_succ, List.getElem?_nil, restE, Option.join, Option.bind_some, Option.bind_none, id_eq, if_true, if_false, Bool.false_eq_true, Bool.not_true, Bool.not_false, Bool.bne_false, Bool.bne_true, reduceIte, Bool.true_bne, Bool.false_bne, and_true, true_and, fnW]
    refine ⟨size_le (by omega), rfl, ?_⟩
    refine wComp_fm (selPV i) (fun x hx K acc hk => ?_) ?_
    · obtain ⟨p, hp, rfl⟩ := List.mem_map.mp hx
      have hk : K (acc ++ (if (((p.1 : Nat) : Int) == (i : Int)) = true then [PV.int 1] else [])) _ := hk
      simp only [sSeq, sNext, sRet, sRetN, sRetV, sSet, sIf, sDrop, sTgt, sPar, sNever, wTmps, setAll, sFor, gNm, IL.gTup, gEach, tTrue, tTru, tOf, tNotW, tAndW, tOrW, oAnd, oOr, oNotT, oIf, oChain, oTup, oLst, wArgs, oPrim, withOps, evOps, Opd.ev, oC, oVar, oSl, partEv, oMeth, isStrPV, oComp, oComp2, iSeq, iRange1, iRange2, rgW, oDict0, lift1, lift2, Opr.rd, rdAll, e_rl, Option.map_some, Option.map_none, e_pv, e_po, e_tb, e_ti, e_tn, e_tl, e_tt, e_add, e_addS, e_addL, e_addT, e_sub, e_mul, e_mod, e_fdiv, e_pow, e_neg, e_lt, e_le, e_gt, e_ge, e_eqI, e_lenT, e_lenL, e_lenS, e_lenR, e_tupL, e_tupT, e_intI, e_isiI, e_isiIB, e_isiT, e_isiS, e_isN, e_isI, e_isS, e_isT, e_sqT, e_sqL, e_sqS, wipeE, IL.envOf, List.map_cons, List.map_nil, List.length_cons, List.length_nil, Nat.zero_add, Nat.reduceSub, Nat.reduceAdd, List.replicate, List.cons_append, List.nil_append, List.set_cons_zero, List.set_cons_succ, List.getElem?_cons_zero, List.getElem?_cons_succ, List.getElem?_nil, restE, Option.join, Option.bind_some, Option.bind_none, id_eq, if_true, if_false, Bool.false_eq_true, Bool.not_true, Bool.not_false, Bool.bne_false, Bool.bne_true, reduceIte, Bool.true_bne, Bool.false_bne, and_true, true_and, fnW, pPV]
      split at hk
      · rename_i e
        rw [if_pos e]
        exact hk
      · rename_i e
        rw [if_neg e]
        rw [List.append_nil] at hk
        exact hk
    · simp only [sSeq, sNext, sRet, sRetN, sRetV, sSet, sIf, sDrop, sTgt, sPar, sNever, wTmps, setAll, sFor, gNm, IL.gTup, gEach, tTrue, tTru, tOf, tNotW, tAndW, tOrW, oAnd, oOr, oNotT, oIf, oChain, oTup, oLst, wArgs, oPrim, withOps, evOps, Opd.ev, oC, oVar, oSl, partEv, oMeth, isStrPV, oComp, oComp2, iSeq, iRange1, iRange2, rgW, oDict0, lift1, lift2, Opr.rd, rdAll, e_rl, Option.map_some, Option.map_none, e_pv, e_po, e_tb, e_ti, e_tn, e_tl, e_tt, e_add, e_addS, e_addL, e_addT, e_sub, e_mul, e_mod, e_fdiv, e_pow, e_neg, e_lt, e_le, e_gt, e_ge, e_eqI, e_lenT, e_lenL, e_lenS, e_lenR, e_tupL, e_tupT, e_intI, e_isiI, e_isiIB, e_isiT, e_isiS, e_isN, e_isI, e_isS, e_isT, e_sqT, e_sqL, e_sqS, wipeE, IL.envOf, List.map_cons, List.map_nil, List.length_cons, List.length_nil, Nat.zero_add, Nat.reduceSub, Nat.reduceAdd, List.replicate, List.cons_append, List.nil_append, List.set_cons_zero, List.set_cons_succ, List.getElem?_cons_zero, List.getElem?_cons_succ, List.getElem?_nil, restE, Option.join, Option.bind_some, Option.bind_none, id_eq, if_true, if_false, Bool.false_eq_true, Bool.not_true, Bool.not_false, Bool.bne_false, Bool.bne_true, reduceIte, Bool.true_bne, Bool.false_bne, and_true, true_and, fnW]
      rw [sel_len]
      exact hk
  · simp only [sSeq, sNext, sRet, sRetN, sRetV, sSet, sIf, sDrop, sTgt, sPar, sNever, wTmps, setAll, sFor, gNm, IL.gTup, gEach, tTrue, tTru, tOf, tNotW, tAndW, tOrW, oAnd, oOr, oNotT, oIf, oChain, oTup, oLst, wArgs, oPrim, withOps, evOps, Opd.ev, oC, oVar, oSl, partEv, oMeth, isStrPV, oComp, oComp2, iSeq, iRange1, iRange2, rgW, oDict0, lift1, lift2, Opr.rd, rdAll, e_rl, Option.map_some, Option.map_none, e_pv, e_po, e_tb, e_ti, e_tn, e_tl, e_tt, e_add, e_addS, e_addL, e_addT, e_sub, e_mul, e_mod, e_fdiv, e_pow, e_neg, e_lt, e_le, e_gt, e_ge, e_eqI, e_lenT, e_lenL, e_lenS, e_lenR, e_tupL, e_tupT, e_intI, e_isiI, e_isiIB, e_isiT, e_isiS, e_isN, e_isI, e_isS, e_isT, e_sqT, e_sqL, e_sqS, wipeE, IL.envOf, List.map_cons, List.map_nil, List.length_cons, List.length_nil, Nat.zero_add, Nat.reduceSub, Nat.reduceAdd, List.replicate, List.cons_append, List.nil_append, List.set_cons_zero, List.set_cons_succ, List.getElem?_cons_zero, List.getElem?_cons_succ, List.getElem?_nil, restE, Option.join, Option.bind_some, Option.bind_none, id_eq, if_true, if_false, Bool.false_eq_true, Bool.not_true, Bool.not_false, Bool.bne_false, Bool.bne_true, reduceIte, Bool.true_bne, Bool.false_bne, and_true, true_and, fnW]
    have e : (rangePV 0 m).map (cntPV ws) = (pointsL m ws).map iPV := by
      unfold rangePV pointsL
      rw [List.map_map, List.map_map]
      apply List.map_congr_left
      intro i _
      show PV.int (cnt ws (0 + (i : Int)).toNat) = .int (cnt ws i)
      rw [Int.zero_add, Int.toNat_natCast]
    rw [e]
    exact h
theorem i_up_to {i m : Int} (h0 : 0 ≤ i) (h1 : i ≤ m) (h : Q (.v (.bl true))) : F__law_is_up_to [.int i, .int m] Q := by
  unfold F__law_is_up_to b__law_is_up_to
  simp only [sSeq, sNext, sRet, sRetN, sRetV, sSet, sIf, sDrop, sTgt, sPar, sNever, wTmps, setAll, sFor, gNm, IL.gTup, gEach, tTrue, tTru, tOf, tNotW, tAndW, tOrW, oAnd, oOr, oNotT, oIf, oChain, oTup, oLst, wArgs, oPrim, withOps, evOps, Opd.ev, oC, oVar, oSl, partEv, oMeth, isStrPV, oComp, oComp2, iSeq, iRange1, iRange2, rgW, oDict0, lift1, lift2, Opr.rd, rdAll, e_rl, Option.map_some, Option.map_none, e_pv, e_po, e_tb, e_ti, e_tn, e_tl, e_tt, e_add, e_addS, e_addL, e_addT, e_sub, e_mul, e_mod, e_fdiv, e_pow, e_neg, e_lt, e_le, e_gt, e_ge, e_eqI, e_lenT, e_lenL, e_lenS, e_lenR, e_tupL, e_tupT, e_intI, e_isiI, e_isiIB, e_isiT, e_isiS, e_isN, e_isI, e_isS, e_isT, e_sqT, e_sqL, e_sqS, wipeE, IL.envOf, List.map_cons, List.map_nil, List.length_cons, List.length_nil, Nat.zero_add, Nat.reduceSub, Nat.reduceAdd, List.replicate, List.cons_append, List.nil_append, List.set_cons_zero, List.set_cons_succ, List.getElem?_cons_zero, List.getElem?_cons_succ, List.getElem?_nil, restE, Option.join, Option.bind_some, Option.bind_none, id_eq, if_true, if_false, Bool.false_eq_true, Bool.not_true, Bool.not_false, Bool.bne_false, Bool.bne_true, reduceIte, Bool.true_bne, Bool.false_bne, and_true, true_and, fnW, decide_eq_true h0, decide_eq_true h1]
  exact h
theorem pLe_false {p q : Nat × Nat} (hp : ltP p q) (h : Q (.v (.bl false))) : pLe (pPV q) (pPV p) Q := by
  have e : leLex [(q.1 : Int), q.2] [(p.1 : Int), p.2] = false := by
    show (if decide ((q.1 : Int) = p.1) = true then (if decide ((q.2 : Int) = p.2) = true then decide (2 ≤ 2) else decide ((q.2 : Int) ≤ p.2)) else decide ((q.1 : Int) ≤ p.1)) = false
    rcases hp with hp | ⟨hp1, hp2⟩
    · rw [if_neg (by simp; omega)]
      exact decide_eq_false (by omega)
    · rw [if_pos (by simp; omega), if_neg (by simp; omega)]
      exact decide_eq_false (by omega)
  show Q (.v (.bl (leLex [(q.1 : Int), q.2] [(p.1 : Int), p.2])))
  rw [e]
  exact h
theorem i_law_are_games {m : Nat} {ws : List (Nat × Nat)} (g : Good m ws) (h : Q (.v (.bl true))) : F__law_are_games [gPV m ws] Q := by
  have hL : (ws.map pPV).length ≤ 64 := by simpa using g.len
  have m1 := g.m1
  have m8 := g.m8
  have hd : decide ((m : Int) < 1) = false := decide_eq_false (by omega)
  unfold F__law_are_games b__law_are_games
  simp only [sSeq, sNext, sRet, sRetN, sRetV, sSet, sIf, sDrop, sTgt, sPar, sNever, wTmps, setAll, sFor, gNm, IL.gTup, gEach, tTrue, tTru, tOf, tNotW, tAndW, tOrW, oAnd, oOr, oNotT, oIf, oChain, oTup, oLst, wArgs, oPrim, withOps, evOps, Opd.ev, oC, oVar, oSl, partEv, oMeth, isStrPV, oComp, oComp2, iSeq, iRange1, iRange2, rgW, oDict0, lift1, lift2, Opr.rd, rdAll, e_rl, Option.map_some, Option.map_none, e_pv, e_po, e_tb, e_ti, e_tn, e_tl, e_tt, e_add, e_addS, e_addL, e_addT, e_sub, e_mul, e_mod, e_fdiv, e_pow, e_neg, e_lt, e_le, e_gt, e_ge, e_eqI, e_lenT, e_lenL, e_lenS, e_lenR, e_tupL, e_tupT, e_intI, e_isiI, e_isiIB, e_isiT, e_isiS, e_isN, e_isI, e_isS, e_isT, e_sqT, e_sqL, e_sqS, wipeE, IL.envOf, List.map_cons, List.map_nil, List.length_cons, List.length_nil, Nat.zero_add, Nat.reduceSub, Nat.reduceAdd, List.replicate, List.cons_append, List.nil_append, List.set_cons_zero, List.set_cons_succ, List.getElem?_cons_zero, List.getElem?_cons_succ, List.getElem?_nil, restE, Option.join, Option.bind_some, Option.bind_none, id_eq, if_true, if_false, Bool.false_eq_true, Bool.not_true, Bool.not_false, Bool.bne_false, Bool.bne_true, reduceIte, Bool.true_bne, Bool.false_bne, and_true, true_and, fnW, oCall, gPV, bne_self_eq_false]
  rw [if_neg (by decide)]
  refine pIx_tup0 ?_
  try simp only [sSeq, sNext, sRet, sRetN, sRetV, sSet, sIf, sDrop, sTgt, sPar, sNever, wTmps, setAll, sFor, gNm, IL.gTup, gEach, tTrue, tTru, tOf, tNotW, tAndW, tOrW, oAnd, oOr, oNotT, oIf, oChain, oTup, oLst, wArgs, oPrim, withOps, evOps, Opd.ev, oC, oVar, oSl, partEv, oMeth, isStrPV, oComp, oComp2, iSeq, iRange1, iRange2, rgW, oDict0, lift1, lift2, Opr.rd, rdAll, e_rl, Option.map_some, Option.map_none, e_pv, e_po, e_tb, e_ti, e_tn, e_tl, e_tt, e_add, e_addS, e_addL, e_addT, e_sub, e_mul, e_mod, e_fdiv, e_pow, e_neg, e_lt, e_le, e_gt, e_ge, e_eqI, e_lenT, e_lenL, e_lenS, e_lenR, e_tupL, e_tupT, e_intI, e_isiI, e_isiIB, e_isiT, e_isiS, e_isN, e_isI, e_isS, e_isT, e_sqT, e_sqL, e_sqS, wipeE, IL.envOf, List.map_cons, List.map_nil, List.length_cons, List.length_nil, Nat.zero_add, Nat.reduceSub, Nat.reduceAdd, List.replicate, List.cons_append, List.nil_append, List.set_cons_zero, List.set_cons_succ, List.getElem?_cons_zero, List.getElem?_cons_succ, List.getElem?_nil, restE, Option.join, Option.bind_some, Option.bind_none, id_eq, if_true, if_false, Bool.false_eq_true, Bool.not_true, Bool.not_false, Bool.bne_false, Bool.bne_true, reduceIte, Bool.true_bne, Bool.false_bne, and_true, true_and, fnW]
  refine i_up_to (by omega) (by omega) ?_
  simp only [sSeq, sNext, sRet, sRetN, sRetV, sSet, sIf, sDrop, sTgt, sPar, sNever, wTmps, setAll, sFor, gNm, IL.gTup, gEach, tTrue, tTru, tOf, tNotW, tAndW, tOrW, oAnd, oOr, oNotT, oIf, oChain, oTup, oLst, wArgs, oPrim, withOps, evOps, Opd.ev, oC, oVar, oSl, partEv, oMeth, isStrPV, oComp, oComp2, iSeq, iRange1, iRange2, rgW, oDict0, lift1, lift2, Opr.rd, rdAll, e_rl, Option.map_some, Option.map_none, e_pv, e_po, e_tb, e_ti, e_tn, e_tl, e_tt, e_add, e_addS, e_addL, e_addT, e_sub, e_mul, e_mod, e_fdiv, e_pow, e_neg, e_lt, e_le, e_gt, e_ge, e_eqI, e_lenT, e_lenL, e_lenS, e_lenR, e_tupL, e_tupT, e_intI, e_isiI, e_isiIB, e_isiT, e_isiS, e_isN, e_isI, e_isS, e_isT, e_sqT, e_sqL, e_sqS, wipeE, IL.envOf, List.map_cons, List.map_nil, List.length_cons, List.length_nil, Nat.zero_add, Nat.reduceSub, Nat.reduceAdd, List.replicate, List.cons_append, List.nil_append, List.set_cons_zero, List.set_cons_succ, List.getElem?_cons_zero, List.getElem?_cons_succ, List.getElem?_nil, restE, Option.join, Option.bind_some, Option.bind_none, id_eq, if_true, if_false, Bool.false_eq_true, Bool.not_true, Bool.not_false, Bool.bne_false, Bool.bne_true, reduceIte, Bool.true_bne, Bool.false_bne, and_true, true_and, fnW]
  refine pIx_tup0 ?_
  simp only [sSeq, sNext, sRet, sRetN, sRetV, sSet, sIf, sDrop, sTgt, sPar, sNever, wTmps, setAll, sFor, gNm, IL.gTup, gEach, tTrue, tTru, tOf, tNotW, tAndW, tOrW, oAnd, oOr, oNotT, oIf, oChain, oTup, oLst, wArgs, oPrim, withOps, evOps, Opd.ev, oC, oVar, oSl, partEv, oMeth, isStrPV, oComp, oComp2, iSeq, iRange1, iRange2, rgW, oDict0, lift1, lift2, Opr.rd, rdAll, e_rl, Option.map_some, Option.map_none, e_pv, e_po, e_tb, e_ti, e_tn, e_tl, e_tt, e_add, e_addS, e_addL, e_addT, e_sub, e_mul, e_mod, e_fdiv, e_pow, e_neg, e_lt, e_le, e_gt, e_ge, e_eqI, e_lenT, e_lenL, e_lenS, e_lenR, e_tupL, e_tupT, e_intI, e_isiI, e_isiIB, e_isiT, e_isiS, e_isN, e_isI, e_isS, e_isT, e_sqT, e_sqL, e_sqS, wipeE, IL.envOf, List.map_cons, List.map_nil, List.length_cons, List.length_nil, Nat.zero_add, Nat.reduceSub, Nat.reduceAdd, List.replicate, List.cons_append, List.nil_append, List.set_cons_zero, List.set_cons_succ, List.getElem?_cons_zero, List.getElem?_cons_succ, List.getElem?_nil, restE, Option.join, Option.bind_some, Option.bind_none, id_eq, if_true, if_false, Bool.false_eq_true, Bool.not_true, Bool.not_false, Bool.bne_false, Bool.bne_true, reduceIte, Bool.true_bne, Bool.false_bne, and_true, true_and, fnW, hd]
  refine pIx_tup1 ?_
  simp only [sSeq, sNext, sRet, sRetN, sRetV, sSet, sIf, sDrop, sTgt, sPar, sNever, wTmps, setAll, sFor, gNm, IL.gTup, gEach, tTrue, tTru, tOf, tNotW, tAndW, tOrW, oAnd, oOr, oNotT, oIf, oChain, oTup, oLst, wArgs, oPrim, withOps, evOps, Opd.ev, oC, oVar, oSl, partEv, oMeth, isStrPV, oComp, oComp2, iSeq, iRange1, iRange2, rgW, oDict0, lift1, lift2, Opr.rd, rdAll, e_rl, Option.map_some, Option.map_none, e_pv, e_po, e_tb, e_ti, e_tn, e_tl, e_tt, e_add, e_addS, e_addL, e_addT, e_sub, e_mul, e_mod, e_fdiv, e_pow, e_neg, e_lt, e_le, e_gt, e_ge, e_eqI, e_lenT, e_lenL, e_lenS, e_lenR, e_tupL, e_tupT, e_intI, e_isiI, e_isiIB, e_isiT, e_isiS, e_isN, e_isI, e_isS, e_isT, e_sqT, e_sqL, e_sqS, wipeE, IL.envOf, List.map_cons, List.map_nil, List.length_cons, List.length_nil, Nat.zero_add, Nat.reduceSub, Nat.reduceAdd, List.replicate, List.cons_append, List.nil_append, List.set_cons_zero, List.set_cons_succ, List.getElem?_cons_zero, List.getElem?_cons_succ, List.getElem?_nil, restE, Option.join, Option.bind_some, Option.bind_none, id_eq, if_true, if_false, Bool.false_eq_true, Bool.not_true, Bool.not_false, Bool.bne_false, Bool.bne_true, reduceIte, Bool.true_bne, Bool.false_bne, and_true, true_and, fnW, z_Ttuple]
  refine pIx_tup1 ?_
  simp only [sSeq, sNext, sRet, sRetN, sRetV, sSet, sIf, sDrop, sTgt, sPar, sNever, wTmps, setAll, sFor, gNm, IL.gTup, gEach, tTrue, tTru, tOf, tNotW, tAndW, tOrW, oAnd, oOr, oNotT, oIf, oChain, oTup, oLst, wArgs, oPrim, withOps, evOps, Opd.ev, oC, oVar, oSl, partEv, oMeth, isStrPV, oComp, oComp2, iSeq, iRange1, iRange2, rgW, oDict0, lift1, lift2, Opr.rd, rdAll, e_rl, Option.map_some, Option.map_none, e_pv, e_po, e_tb, e_ti, e_tn, e_tl, e_tt, e_add, e_addS, e_addL, e_addT, e_sub, e_mul, e_mod, e_fdiv, e_pow, e_neg, e_lt, e_le, e_gt, e_ge, e_eqI, e_lenT, e_lenL, e_lenS, e_lenR, e_tupL, e_tupT, e_intI, e_isiI, e_isiIB, e_isiT, e_isiS, e_isN, e_isI, e_isS, e_isT, e_sqT, e_sqL, e_sqS, wipeE, IL.envOf, List.map_cons, List.map_nil, List.length_cons, List.length_nil, Nat.zero_add, Nat.reduceSub, Nat.reduceAdd, List.replicate, List.cons_append, List.nil_append, List.set_cons_zero, List.set_cons_succ, List.getElem?_cons_zero, List.getElem?_cons_succ, List.getElem?_nil, restE, Option.join, Option.bind_some, Option.bind_none, id_eq, if_true, if_false, Bool.false_eq_true, Bool.not_true, Bool.not_false, Bool.bne_false, Bool.bne_true, reduceIte, Bool.true_bne, Bool.false_bne, and_true, true_and, fnW]
  refine wFor_inv (fun xs e => ∃ (suf : List (Nat × Nat)) (e1 : Option TV), (∀ p ∈ suf, p ∈ ws) ∧ xs = suf.map pPV ∧ e = [some (.v (gPV m ws)), e1, none, none, none, none]) (fun e ⟨suf, e1, h1, h2, he⟩ => ?_) ⟨ws, none, fun _ z => z, rfl, rfl⟩ (fun x xs e ⟨suf, e1, h1, h2, he⟩ K hK => ?_)
  · subst he
    simp only [sSeq, sNext, sRet, sRetN, sRetV, sSet, sIf, sDrop, sTgt, sPar, sNever, wTmps, setAll, sFor, gNm, IL.gTup, gEach, tTrue, tTru, tOf, tNotW, tAndW, tOrW, oAnd, oOr, oNotT, oIf, oChain, oTup, oLst, wArgs, oPrim, withOps, evOps, Opd.ev, oC, oVar, oSl, partEv, oMeth, isStrPV, oComp, oComp2, iSeq, iRange1, iRange2, rgW, oDict0, lift1, lift2, Opr.rd, rdAll, e_rl, Option.map_some, Option.map_none, e_pv, e_po, e_tb, e_ti, e_tn, e_tl, e_tt, e_add, e_addS, e_addL, e_addT, e_sub, e_mul, e_mod, e_fdiv, e_pow, e_neg, e_lt, e_le, e_gt, e_ge, e_eqI, e_lenT, e_lenL, e_lenS, e_lenR, e_tupL, e_tupT, e_intI, e_isiI, e_isiIB, e_isiT, e_isiS, e_isN, e_isI, e_isS, e_isT, e_sqT, e_sqL, e_sqS, wipeE, IL.envOf, List.map_cons, List.map_nil, List.length_cons, List.length_nil, Nat.zero_add, Nat.reduceSub, Nat.reduceAdd, List.replicate, List.cons_append, List.nil_append, List.set_cons_zero, List.set_cons_succ, List.getElem?_cons_zero, List.getElem?_cons_succ, List.getElem?_nil, restE, Option.join, Option.bind_some, Option.bind_none, id_eq, if_true, if_false, Bool.false_eq_true, Bool.not_true, Bool.not_false, Bool.bne_false, Bool.bne_true, reduceIte, Bool.true_bne, Bool.false_bne, and_true, true_and, fnW, gPV]
    refine pIx_tup1 ?_
    simp only [sSeq, sNext, sRet, sRetN, sRetV, sSet, sIf, sDrop, sTgt, sPar, sNever, wTmps, setAll, sFor, gNm, IL.gTup, gEach, tTrue, tTru, tOf, tNotW, tAndW, tOrW, oAnd, oOr, oNotT, oIf, oChain, oTup, oLst, wArgs, oPrim, withOps, evOps, Opd.ev, oC, oVar, oSl, partEv, oMeth, isStrPV, oComp, oComp2, iSeq, iRange1, iRange2, rgW, oDict0, lift1, lift2, Opr.rd, rdAll, e_rl, Option.map_some, Option.map_none, e_pv, e_po, e_tb, e_ti, e_tn, e_tl, e_tt, e_add, e_addS, e_addL, e_addT, e_sub, e_mul, e_mod, e_fdiv, e_pow, e_neg, e_lt, e_le, e_gt, e_ge, e_eqI, e_lenT, e_lenL, e_lenS, e_lenR, e_tupL, e_tupT, e_intI, e_isiI, e_isiIB, e_isiT, e_isiS, e_isN, e_isI, e_isS, e_isT, e_sqT, e_sqL, e_sqS, wipeE, IL.envOf, List.map_cons, List.map_nil, List.length_cons, List.length_nil, Nat.zero_add, Nat.reduceSub, Nat.reduceAdd, List.replicate, List.cons_append, List.nil_append, List.set_cons_zero, List.set_cons_succ, List.getElem?_cons_zero, List.getElem?_cons_succ, List.getElem?_nil, restE, Option.join, Option.bind_some, Option.bind_none, id_eq, if_true, if_false, Bool.false_eq_true, Bool.not_true, Bool.not_false, Bool.bne_false, Bool.bne_true, reduceIte, Bool.true_bne, Bool.false_bne, and_true, true_and, fnW]
    refine ⟨⟨by decide, by decide, by omega, by omega⟩, size_le (by rw [rangePV_len]; omega), rfl, ?_⟩
    refine wComp_map (fun _ => .bl false) (fun x hx K acc hk => ?_) ?_
    · obtain ⟨i, hi, rfl⟩ := rangePV_mem hx
      have hi1 : i + 1 < ws.length := by rw [List.length_map] at hi; omega
      simp only [sSeq, sNext, sRet, sRetN, sRetV, sSet, sIf, sDrop, sTgt, sPar, sNever, wTmps, setAll, sFor, gNm, IL.gTup, gEach, tTrue, tTru, tOf, tNotW, tAndW, tOrW, oAnd, oOr, oNotT, oIf, oChain, oTup, oLst, wArgs, oPrim, withOps, evOps, Opd.ev, oC, oVar, oSl, partEv, oMeth, isStrPV, oComp, oComp2, iSeq, iRange1, iRange2, rgW, oDict0, lift1, lift2, Opr.rd, rdAll, e_rl, Option.map_some, Option.map_none, e_pv, e_po, e_tb, e_ti, e_tn, e_tl, e_tt, e_add, e_addS, e_addL, e_addT, e_sub, e_mul, e_mod, e_fdiv, e_pow, e_neg, e_lt, e_le, e_gt, e_ge, e_eqI, e_lenT, e_lenL, e_lenS, e_lenR, e_tupL, e_tupT, e_intI, e_isiI, e_isiIB, e_isiT, e_isiS, e_isN, e_isI, e_isS, e_isT, e_sqT, e_sqL, e_sqS, wipeE, IL.envOf, List.map_cons, List.map_nil, List.length_cons, List.length_nil, Nat.zero_add, Nat.reduceSub, Nat.reduceAdd, List.replicate, List.cons_append, List.nil_append, List.set_cons_zero, List.set_cons_succ, List.getElem?_cons_zero, List.getElem?_cons_succ, List.getElem?_nil, restE, Option.join, Option.bind_some, Option.bind_none, id_eq, if_true, if_false, Bool.false_eq_true, Bool.not_true, Bool.not_false, Bool.bne_false, Bool.bne_true, reduceIte, Bool.true_bne, Bool.false_bne, and_true, true_and, fnW]
      refine pIx_tup1 ?_
      simp only [sSeq, sNext, sRet, sRetN, sRetV, sSet, sIf, sDrop, sTgt, sPar, sNever, wTmps, setAll, sFor, gNm, IL.gTup, gEach, tTrue, tTru, tOf, tNotW, tAndW, tOrW, oAnd, oOr, oNotT, oIf, oChain, oTup, oLst, wArgs, oPrim, withOps, evOps, Opd.ev, oC, oVar, oSl, partEv, oMeth, isStrPV, oComp, oComp2, iSeq, iRange1, iRange2, rgW, oDict0, lift1, lift2, Opr.rd, rdAll, e_rl, Option.map_some, Option.map_none, e_pv, e_po, e_tb, e_ti, e_tn, e_tl, e_tt, e_add, e_addS, e_addL, e_addT, e_sub, e_mul, e_mod, e_fdiv, e_pow, e_neg, e_lt, e_le, e_gt, e_ge, e_eqI, e_lenT, e_lenL, e_lenS, e_lenR, e_tupL, e_tupT, e_intI, e_isiI, e_isiIB, e_isiT, e_isiS, e_isN, e_isI, e_isS, e_isT, e_sqT, e_sqL, e_sqS, wipeE, IL.envOf, List.map_cons, List.map_nil, List.length_cons, List.length_nil, Nat.zero_add, Nat.reduceSub, Nat.reduceAdd, List.replicate, List.cons_append, List.nil_append, List.set_cons_zero, List.set_cons_succ, List.getElem?_cons_zero, List.getElem?_cons_succ, List.getElem?_nil, restE, Option.join, Option.bind_some, Option.bind_none, id_eq, if_true, if_false, Bool.false_eq_true, Bool.not_true, Bool.not_false, Bool.bne_false, Bool.bne_true, reduceIte, Bool.true_bne, Bool.false_bne, and_true, true_and, fnW]
      refine pIx_tup (y := pPV (ws[i + 1]'hi1)) (atI_at (j := i + 1) (by omega) (by rw [List.getElem?_map, List.getElem?_eq_getElem hi1]; rfl)) ?_
      refine pIx_tup1 ?_
      simp only [sSeq, sNext, sRet, sRetN, sRetV, sSet, sIf, sDrop, sTgt, sPar, sNever, wTmps, setAll, sFor, gNm, IL.gTup, gEach, tTrue, tTru, tOf, tNotW, tAndW, tOrW, oAnd, oOr, oNotT, oIf, oChain, oTup, oLst, wArgs, oPrim, withOps, evOps, Opd.ev, oC, oVar, oSl, partEv, oMeth, isStrPV, oComp, oComp2, iSeq, iRange1, iRange2, rgW, oDict0, lift1, lift2, Opr.rd, rdAll, e_rl, Option.map_some, Option.map_none, e_pv, e_po, e_tb, e_ti, e_tn, e_tl, e_tt, e_add, e_addS, e_addL, e_addT, e_sub, e_mul, e_mod, e_fdiv, e_pow, e_neg, e_lt, e_le, e_gt, e_ge, e_eqI, e_lenT, e_lenL, e_lenS, e_lenR, e_tupL, e_tupT, e_intI, e_isiI, e_isiIB, e_isiT, e_isiS, e_isN, e_isI, e_isS, e_isT, e_sqT, e_sqL, e_sqS, wipeE, IL.envOf, List.map_cons, List.map_nil, List.length_cons, List.length_nil, Nat.zero_add, Nat.reduceSub, Nat.reduceAdd, List.replicate, List.cons_append, List.nil_append, List.set_cons_zero, List.set_cons_succ, List.getElem?_cons_zero, List.getElem?_cons_succ, List.getElem?_nil, restE, Option.join, Option.bind_some, Option.bind_none, id_eq, if_true, if_false, Bool.false_eq_true, Bool.not_true, Bool.not_false, Bool.bne_false, Bool.bne_true, reduceIte, Bool.true_bne, Bool.false_bne, and_true, true_and, fnW]
      refine pIx_tup (y := pPV (ws[i]'(by omega))) (atI_at (j := i) (by omega) (by rw [List.getElem?_map, List.getElem?_eq_getElem (by omega)]; rfl)) ?_
      have hp : ltP (ws[i]'(by omega)) (ws[i + 1]'hi1) := List.pairwise_iff_getElem.mp g.inc i (i + 1) (by omega) hi1 (by omega)
      exact pLe_false hp hk
    · refine pAny_false (fun x hx => ?_) ?_
      · rw [List.nil_append] at hx
        obtain ⟨_, _, rfl⟩ := List.mem_map.mp hx
        rfl
      · simp only [sSeq, sNext, sRet, sRetN, sRetV, sSet, sIf, sDrop, sTgt, sPar, sNever, wTmps, setAll, sFor, gNm, IL.gTup, gEach, tTrue, tTru, tOf, tNotW, tAndW, tOrW, oAnd, oOr, oNotT, oIf, oChain, oTup, oLst, wArgs, oPrim, withOps, evOps, Opd.ev, oC, oVar, oSl, partEv, oMeth, isStrPV, oComp, oComp2, iSeq, iRange1, iRange2, rgW, oDict0, lift1, lift2, Opr.rd, rdAll, e_rl, Option.map_some, Option.map_none, e_pv, e_po, e_tb, e_ti, e_tn, e_tl, e_tt, e_add, e_addS, e_addL, e_addT, e_sub, e_mul, e_mod, e_fdiv, e_pow, e_neg, e_lt, e_le, e_gt, e_ge, e_eqI, e_lenT, e_lenL, e_lenS, e_lenR, e_tupL, e_tupT, e_intI, e_isiI, e_isiIB, e_isiT, e_isiS, e_isN, e_isI, e_isS, e_isT, e_sqT, e_sqL, e_sqS, wipeE, IL.envOf, List.map_cons, List.map_nil, List.length_cons, List.length_nil, Nat.zero_add, Nat.reduceSub, Nat.reduceAdd, List.replicate, List.cons_append, List.nil_append, List.set_cons_zero, List.set_cons_succ, List.getElem?_cons_zero, List.getElem?_cons_succ, List.getElem?_nil, restE, Option.join, Option.bind_some, Option.bind_none, id_eq, if_true, if_false, Bool.false_eq_true, Bool.not_true, Bool.not_false, Bool.bne_false, Bool.bne_true, reduceIte, Bool.true_bne, Bool.false_bne, and_true, true_and, fnW]
        refine pIx_tup1 ?_
        simp only [sSeq, sNext, sRet, sRetN, sRetV, sSet, sIf, sDrop, sTgt, sPar, sNever, wTmps, setAll, sFor, gNm, IL.gTup, gEach, tTrue, tTru, tOf, tNotW, tAndW, tOrW, oAnd, oOr, oNotT, oIf, oChain, oTup, oLst, wArgs, oPrim, withOps, evOps, Opd.ev, oC, oVar, oSl, partEv, oMeth, isStrPV, oComp, oComp2, iSeq, iRange1, iRange2, rgW, oDict0, lift1, lift2, Opr.rd, rdAll, e_rl, Option.map_some, Option.map_none, e_pv, e_po, e_tb, e_ti, e_tn, e_tl, e_tt, e_add, e_addS, e_addL, e_addT, e_sub, e_mul, e_mod, e_fdiv, e_pow, e_neg, e_lt, e_le, e_gt, e_ge, e_eqI, e_lenT, e_lenL, e_lenS, e_lenR, e_tupL, e_tupT, e_intI, e_isiI, e_isiIB, e_isiT, e_isiS, e_isN, e_isI, e_isS, e_isT, e_sqT, e_sqL, e_sqS, wipeE, IL.envOf, List.map_cons, List.map_nil, List.length_cons, List.length_nil, Nat.zero_add, Nat.reduceSub, Nat.reduceAdd, List.replicate, List.cons_append, List.nil_append, List.set_cons_zero, List.set_cons_succ, List.getElem?_cons_zero, List.getElem?_cons_succ, List.getElem?_nil, restE, Option.join, Option.bind_some, Option.bind_none, id_eq, if_true, if_false, Bool.false_eq_true, Bool.not_true, Bool.not_false, Bool.bne_false, Bool.bne_true, reduceIte, Bool.true_bne, Bool.false_bne, and_true, true_and, fnW]
        refine ⟨size_le (by omega), rfl, ?_⟩
        refine wComp_map (fun _ => .bl false) (fun x hx K acc hk => ?_) ?_
        · obtain ⟨p, hp, rfl⟩ := List.mem_map.mp hx
          simp only [sSeq, sNext, sRet, sRetN, sRetV, sSet, sIf, sDrop, sTgt, sPar, sNever, wTmps, setAll, sFor, gNm, IL.gTup, gEach, tTrue, tTru, tOf, tNotW, tAndW, tOrW, oAnd, oOr, oNotT, oIf, oChain, oTup, oLst, wArgs, oPrim, withOps, evOps, Opd.ev, oC, oVar, oSl, partEv, oMeth, isStrPV, oComp, oComp2, iSeq, iRange1, iRange2, rgW, oDict0, lift1, lift2, Opr.rd, rdAll, e_rl, Option.map_some, Option.map_none, e_pv, e_po, e_tb, e_ti, e_tn, e_tl, e_tt, e_add, e_addS, e_addL, e_addT, e_sub, e_mul, e_mod, e_fdiv, e_pow, e_neg, e_lt, e_le, e_gt, e_ge, e_eqI, e_lenT, e_lenL, e_lenS, e_lenR, e_tupL, e_tupT, e_intI, e_isiI, e_isiIB, e_isiT, e_isiS, e_isN, e_isI, e_isS, e_isT, e_sqT, e_sqL, e_sqS, wipeE, IL.envOf, List.map_cons, List.map_nil, List.length_cons, List.length_nil, Nat.zero_add, Nat.reduceSub, Nat.reduceAdd, List.replicate, List.cons_append, List.nil_append, List.set_cons_zero, List.set_cons_succ, List.getElem?_cons_zero, List.getElem?_cons_succ, List.getElem?_nil, restE, Option.join, Option.bind_some, Option.bind_none, id_eq, if_true, if_false, Bool.false_eq_true, Bool.not_true, Bool.not_false, Bool.bne_false, Bool.bne_true, reduceIte, Bool.true_bne, Bool.false_bne, and_true, true_and, fnW, pPV]
          refine pIx_tup1 ?_
          refine pIn_ws (p := (p.2, p.1)) (g.rev p hp) ?_
          exact hk
        · refine pAny_false (fun x hx => ?_) ?_
          · rw [List.nil_append] at hx
            obtain ⟨_, _, rfl⟩ := List.mem_map.mp hx
            rfl
          · simp only [sSeq, sNext, sRet, sRetN, sRetV, sSet, sIf, sDrop, sTgt, sPar, sNever, wTmps, setAll, sFor, gNm, IL.gTup, gEach, tTrue, tTru, tOf, tNotW, tAndW, tOrW, oAnd, oOr, oNotT, oIf, oChain, oTup, oLst, wArgs, oPrim, withOps, evOps, Opd.ev, oC, oVar, oSl, partEv, oMeth, isStrPV, oComp, oComp2, iSeq, iRange1, iRange2, rgW, oDict0, lift1, lift2, Opr.rd, rdAll, e_rl, Option.map_some, Option.map_none, e_pv, e_po, e_tb, e_ti, e_tn, e_tl, e_tt, e_add, e_addS, e_addL, e_addT, e_sub, e_mul, e_mod, e_fdiv, e_pow, e_neg, e_lt, e_le, e_gt, e_ge, e_eqI, e_lenT, e_lenL, e_lenS, e_lenR, e_tupL, e_tupT, e_intI, e_isiI, e_isiIB, e_isiT, e_isiS, e_isN, e_isI, e_isS, e_isT, e_sqT, e_sqL, e_sqS, wipeE, IL.envOf, List.map_cons, List.map_nil, List.length_cons, List.length_nil, Nat.zero_add, Nat.reduceSub, Nat.reduceAdd, List.replicate, List.cons_append, List.nil_append, List.set_cons_zero, List.set_cons_succ, List.getElem?_cons_zero, List.getElem?_cons_succ, List.getElem?_nil, restE, Option.join, Option.bind_some, Option.bind_none, id_eq, if_true, if_false, Bool.false_eq_true, Bool.not_true, Bool.not_false, Bool.bne_false, Bool.bne_true, reduceIte, Bool.true_bne, Bool.false_bne, and_true, true_and, fnW]
            exact h
  · subst he
    cases suf with
    | nil => cases h2
    | cons p suf =>
      rw [List.map_cons] at h2
      injection h2 with h2 h4
      subst h2 h4
      have r := g.rng p (h1 p (by simp))
      simp only [sSeq, sNext, sRet, sRetN, sRetV, sSet, sIf, sDrop, sTgt, sPar, sNever, wTmps, setAll, sFor, gNm, IL.gTup, gEach, tTrue, tTru, tOf, tNotW, tAndW, tOrW, oAnd, oOr, oNotT, oIf, oChain, oTup, oLst, wArgs, oPrim, withOps, evOps, Opd.ev, oC, oVar, oSl, partEv, oMeth, isStrPV, oComp, oComp2, iSeq, iRange1, iRange2, rgW, oDict0, lift1, lift2, Opr.rd, rdAll, e_rl, Option.map_some, Option.map_none, e_pv, e_po, e_tb, e_ti, e_tn, e_tl, e_tt, e_add, e_addS, e_addL, e_addT, e_sub, e_mul, e_mod, e_fdiv, e_pow, e_neg, e_lt, e_le, e_gt, e_ge, e_eqI, e_lenT, e_lenL, e_lenS, e_lenR, e_tupL, e_tupT, e_intI, e_isiI, e_isiIB, e_isiT, e_isiS, e_isN, e_isI, e_isS, e_isT, e_sqT, e_sqL, e_sqS, wipeE, IL.envOf, List.map_cons, List.map_nil, List.length_cons, List.length_nil, Nat.zero_add, Nat.reduceSub, Nat.reduceAdd, List.replicate, List.cons_append, List.nil_append, List.set_cons_zero, List.set_cons_succ, List.getElem?_cons_zero, List.getElem?_cons_succ, List.getElem?_nil, restE, Option.join, Option.bind_some, Option.bind_none, id_eq, if_true, if_false, Bool.false_eq_true, Bool.not_true, Bool.not_false, Bool.bne_false, Bool.bne_true, reduceIte, Bool.true_bne, Bool.false_bne, and_true, true_and, fnW, oCall, gPV, pPV, z_Ttuple]
      rw [if_neg (by decide)]
      refine ⟨size_le (by decide), rfl, ?_⟩
      refine wComp_map (fun _ => .bl true) (fun x hx K acc hk => ?_) ?_
      · have hx' : ∃ n : Nat, x = .int n ∧ n < m := by
          simp only [List.mem_cons, List.not_mem_nil, or_false] at hx
          rcases hx with rfl | rfl
          · exact ⟨p.1, rfl, r.1⟩
          · exact ⟨p.2, rfl, r.2.1⟩
        obtain ⟨n, rfl, hn⟩ := hx'
        simp only [sSeq, sNext, sRet, sRetN, sRetV, sSet, sIf, sDrop, sTgt, sPar, sNever, wTmps, setAll, sFor, gNm, IL.gTup, gEach, tTrue, tTru, tOf, tNotW, tAndW, tOrW, oAnd, oOr, oNotT, oIf, oChain, oTup, oLst, wArgs, oPrim, withOps, evOps, Opd.ev, oC, oVar, oSl, partEv, oMeth, isStrPV, oComp, oComp2, iSeq, iRange1, iRange2, rgW, oDict0, lift1, lift2, Opr.rd, rdAll, e_rl, Option.map_some, Option.map_none, e_pv, e_po, e_tb, e_ti, e_tn, e_tl, e_tt, e_add, e_addS, e_addL, e_addT, e_sub, e_mul, e_mod, e_fdiv, e_pow, e_neg, e_lt, e_le, e_gt, e_ge, e_eqI, e_lenT, e_lenL, e_lenS, e_lenR, e_tupL, e_tupT, e_intI, e_isiI, e_isiIB, e_isiT, e_isiS, e_isN, e_isI, e_isS, e_isT, e_sqT, e_sqL, e_sqS, wipeE, IL.envOf, List.map_cons, List.map_nil, List.length_cons, List.length_nil, Nat.zero_add, Nat.reduceSub, Nat.reduceAdd, List.replicate, List.cons_append, List.nil_append, List.set_cons_zero, List.set_cons_succ, List.getElem?_cons_zero, List.getElem?_cons_succ, List.getElem?_nil, restE, Option.join, Option.bind_some, Option.bind_none, id_eq, if_true, if_false, Bool.false_eq_true, Bool.not_true, Bool.not_false, Bool.bne_false, Bool.bne_true, reduceIte, Bool.true_bne, Bool.false_bne, and_true, true_and, fnW, oCall]
        refine pIx_tup0 ?_
        simp only [sSeq, sNext, sRet, sRetN, sRetV, sSet, sIf, sDrop, sTgt, sPar, sNever, wTmps, setAll, sFor, gNm, IL.gTup, gEach, tTrue, tTru, tOf, tNotW, tAndW, tOrW, oAnd, oOr, oNotT, oIf, oChain, oTup, oLst, wArgs, oPrim, withOps, evOps, Opd.ev, oC, oVar, oSl, partEv, oMeth, isStrPV, oComp, oComp2, iSeq, iRange1, iRange2, rgW, oDict0, lift1, lift2, Opr.rd, rdAll, e_rl, Option.map_some, Option.map_none, e_pv, e_po, e_tb, e_ti, e_tn, e_tl, e_tt, e_add, e_addS, e_addL, e_addT, e_sub, e_mul, e_mod, e_fdiv, e_pow, e_neg, e_lt, e_le, e_gt, e_ge, e_eqI, e_lenT, e_lenL, e_lenS, e_lenR, e_tupL, e_tupT, e_intI, e_isiI, e_isiIB, e_isiT, e_isiS, e_isN, e_isI, e_isS, e_isT, e_sqT, e_sqL, e_sqS, wipeE, IL.envOf, List.map_cons, List.map_nil, List.length_cons, List.length_nil, Nat.zero_add, Nat.reduceSub, Nat.reduceAdd, List.replicate, List.cons_append, List.nil_append, List.set_cons_zero, List.set_cons_succ, List.getElem?_cons_zero, List.getElem?_cons_succ, List.getElem?_nil, restE, Option.join, Option.bind_some, Option.bind_none, id_eq, if_true, if_false, Bool.false_eq_true, Bool.not_true, Bool.not_false, Bool.bne_false, Bool.bne_true, reduceIte, Bool.true_bne, Bool.false_bne, and_true, true_and, fnW]
        refine i_up_to (by omega) (by omega) ?_
        exact hk
      · refine pAll_true (fun x hx => ?_) ?_
        · rw [List.nil_append] at hx
          obtain ⟨_, _, rfl⟩ := List.mem_map.mp hx
          rfl
        · simp only [sSeq, sNext, sRet, sRetN, sRetV, sSet, sIf, sDrop, sTgt, sPar, sNever, wTmps, setAll, sFor, gNm, IL.gTup, gEach, tTrue, tTru, tOf, tNotW, tAndW, tOrW, oAnd, oOr, oNotT, oIf, oChain, oTup, oLst, wArgs, oPrim, withOps, evOps, Opd.ev, oC, oVar, oSl, partEv, oMeth, isStrPV, oComp, oComp2, iSeq, iRange1, iRange2, rgW, oDict0, lift1, lift2, Opr.rd, rdAll, e_rl, Option.map_some, Option.map_none, e_pv, e_po, e_tb, e_ti, e_tn, e_tl, e_tt, e_add, e_addS, e_addL, e_addT, e_sub, e_mul, e_mod, e_fdiv, e_pow, e_neg, e_lt, e_le, e_gt, e_ge, e_eqI, e_lenT, e_lenL, e_lenS, e_lenR, e_tupL, e_tupT, e_intI, e_isiI, e_isiIB, e_isiT, e_isiS, e_isN, e_isI, e_isS, e_isT, e_sqT, e_sqL, e_sqS, wipeE, IL.envOf, List.map_cons, List.map_nil, List.length_cons, List.length_nil, Nat.zero_add, Nat.reduceSub, Nat.reduceAdd, List.replicate, List.cons_append, List.nil_append, List.set_cons_zero, List.set_cons_succ, List.getElem?_cons_zero, List.getElem?_cons_succ, List.getElem?_nil, restE, Option.join, Option.bind_some, Option.bind_none, id_eq, if_true, if_false, Bool.false_eq_true, Bool.not_true, Bool.not_false, Bool.bne_false, Bool.bne_true, reduceIte, Bool.true_bne, Bool.false_bne, and_true, true_and, fnW]
          refine pIx_tup0 ?_
          simp only [sSeq, sNext, sRet, sRetN, sRetV, sSet, sIf, sDrop, sTgt, sPar, sNever, wTmps, setAll, sFor, gNm, IL.gTup, gEach, tTrue, tTru, tOf, tNotW, tAndW, tOrW, oAnd, oOr, oNotT, oIf, oChain, oTup, oLst, wArgs, oPrim, withOps, evOps, Opd.ev, oC, oVar, oSl, partEv, oMeth, isStrPV, oComp, oComp2, iSeq, iRange1, iRange2, rgW, oDict0, lift1, lift2, Opr.rd, rdAll, e_rl, Option.map_some, Option.map_none, e_pv, e_po, e_tb, e_ti, e_tn, e_tl, e_tt, e_add, e_addS, e_addL, e_addT, e_sub, e_mul, e_mod, e_fdiv, e_pow, e_neg, e_lt, e_le, e_gt, e_ge, e_eqI, e_lenT, e_lenL, e_lenS, e_lenR, e_tupL, e_tupT, e_intI, e_isiI, e_isiIB, e_isiT, e_isiS, e_isN, e_isI, e_isS, e_isT, e_sqT, e_sqL, e_sqS, wipeE, IL.envOf, List.map_cons, List.map_nil, List.length_cons, List.length_nil, Nat.zero_add, Nat.reduceSub, Nat.reduceAdd, List.replicate, List.cons_append, List.nil_append, List.set_cons_zero, List.set_cons_succ, List.getElem?_cons_zero, List.getElem?_cons_succ, List.getElem?_nil, restE, Option.join, Option.bind_some, Option.bind_none, id_eq, if_true, if_false, Bool.false_eq_true, Bool.not_true, Bool.not_false, Bool.bne_false, Bool.bne_true, reduceIte, Bool.true_bne, Bool.false_bne, and_true, true_and, fnW]
          refine pIx_tup1 ?_
          simp only [sSeq, sNext, sRet, sRetN, sRetV, sSet, sIf, sDrop, sTgt, sPar, sNever, wTmps, setAll, sFor, gNm, IL.gTup, gEach, tTrue, tTru, tOf, tNotW, tAndW, tOrW, oAnd, oOr, oNotT, oIf, oChain, oTup, oLst, wArgs, oPrim, withOps, evOps, Opd.ev, oC, oVar, oSl, partEv, oMeth, isStrPV, oComp, oComp2, iSeq, iRange1, iRange2, rgW, oDict0, lift1, lift2, Opr.rd, rdAll, e_rl, Option.map_some, Option.map_none, e_pv, e_po, e_tb, e_ti, e_tn, e_tl, e_tt, e_add, e_addS, e_addL, e_addT, e_sub, e_mul, e_mod, e_fdiv, e_pow, e_neg, e_lt, e_le, e_gt, e_ge, e_eqI, e_lenT, e_lenL, e_lenS, e_lenR, e_tupL, e_tupT, e_intI, e_isiI, e_isiIB, e_isiT, e_isiS, e_isN, e_isI, e_isS, e_isT, e_sqT, e_sqL, e_sqS, wipeE, IL.envOf, List.map_cons, List.map_nil, List.length_cons, List.length_nil, Nat.zero_add, Nat.reduceSub, Nat.reduceAdd, List.replicate, List.cons_append, List.nil_append, List.set_cons_zero, List.set_cons_succ, List.getElem?_cons_zero, List.getElem?_cons_succ, List.getElem?_nil, restE, Option.join, Option.bind_some, Option.bind_none, id_eq, if_true, if_false, Bool.false_eq_true, Bool.not_true, Bool.not_false, Bool.bne_false, Bool.bne_true, reduceIte, Bool.true_bne, Bool.false_bne, and_true, true_and, fnW]
          rw [if_neg (fun z => r.2.2 (by have := beq_iff_eq.mp z; omega))]
          exact hK _ ⟨suf, _, fun q hq => h1 q (List.mem_cons_of_mem _ hq), rfl, rfl⟩
end ILaw

namespace ILaw
open PySem PySem.Spec PyProof.Rows L2 IL TL
variable {Q : TV → Prop}
theorem pEq_nils {ng : Bool} (q : Q (.v (.bl (!ng)))) : pEq ng (.lst []) (.lst []) Q := ⟨by decide +kernel, by decide +kernel, by cases ng <;> exact q⟩
theorem num_first {n c : Nat} {r : List Nat} (e : tl (num n) = c :: r) (hl : r ≠ []) : c ≠ 48 := by
  intro hc
  rw [tl_num'] at e
  by_cases h0 : n = 0
  · subst h0
    have : numL 0 = [48] := rfl
    rw [this] at e
    injection e with _ e
    exact hl e.symm
  · obtain ⟨c', r', e', h1, h2⟩ := numL_head (n := n) (by omega)
    rw [e'] at e
    injection e with e1 e2
    omega
theorem i_law_figures {n : Nat} (hn : n < 10 ^ 100) (h : Q (.v (.int n))) : F__law_figures [.str (num n)] Q := by
  have hl := numlen hn
  unfold F__law_figures b__law_figures
  simp only [sSeq, sNext, sRet, sRetN, sRetV, sSet, sIf, sDrop, sTgt, sPar, sNever, wTmps, setAll, sFor, gNm, IL.gTup, gEach, tTrue, tTru, tOf, tNotW, tAndW, tOrW, oAnd, oOr, oNotT, oIf, oChain, oTup, oLst, wArgs, oPrim, withOps, evOps, Opd.ev, oC, oVar, oSl, partEv, oMeth, isStrPV, oComp, oComp2, iSeq, iRange1, iRange2, rgW, oDict0, lift1, lift2, Opr.rd, rdAll, e_rl, Option.map_some, Option.map_none, e_pv, e_po, e_tb, e_ti, e_tn, e_tl, e_tt, e_add, e_addS, e_addL, e_addT, e_sub, e_mul, e_mod, e_fdiv, e_pow, e_neg, e_lt, e_le, e_gt, e_ge, e_eqI, e_lenT, e_lenL, e_lenS, e_lenR, e_tupL, e_tupT, e_intI, e_isiI, e_isiIB, e_isiT, e_isiS, e_isN, e_isI, e_isS, e_isT, e_sqT, e_sqL, e_sqS, wipeE, IL.envOf, List.map_cons, List.map_nil, List.length_cons, List.length_nil, Nat.zero_add, Nat.reduceSub, Nat.reduceAdd, List.replicate, List.cons_append, List.nil_append, List.set_cons_zero, List.set_cons_succ, List.getElem?_cons_zero, List.getElem?_cons_succ, List.getElem?_nil, restE, Option.join, Option.bind_some, Option.bind_none, id_eq, if_true, if_false, Bool.false_eq_true, Bool.not_true, Bool.not_false, Bool.bne_false, Bool.bne_true, reduceIte, Bool.true_bne, Bool.false_bne, and_true, true_and, fnW]
  refine pEq_str num_ok okE ?_
  simp only [sSeq, sNext, sRet, sRetN, sRetV, sSet, sIf, sDrop, sTgt, sPar, sNever, wTmps, setAll, sFor, gNm, IL.gTup, gEach, tTrue, tTru, tOf, tNotW, tAndW, tOrW, oAnd, oOr, oNotT, oIf, oChain, oTup, oLst, wArgs, oPrim, withOps, evOps, Opd.ev, oC, oVar, oSl, partEv, oMeth, isStrPV, oComp, oComp2, iSeq, iRange1, iRange2, rgW, oDict0, lift1, lift2, Opr.rd, rdAll, e_rl, Option.map_some, Option.map_none, e_pv, e_po, e_tb, e_ti, e_tn, e_tl, e_tt, e_add, e_addS, e_addL, e_addT, e_sub, e_mul, e_mod, e_fdiv, e_pow, e_neg, e_lt, e_le, e_gt, e_ge, e_eqI, e_lenT, e_lenL, e_lenS, e_lenR, e_tupL, e_tupT, e_intI, e_isiI, e_isiIB, e_isiT, e_isiS, e_isN, e_isI, e_isS, e_isT, e_sqT, e_sqL, e_sqS, wipeE, IL.envOf, List.map_cons, List.map_nil, List.length_cons, List.length_nil, Nat.zero_add, Nat.reduceSub, Nat.reduceAdd, List.replicate, List.cons_append, List.nil_append, List.set_cons_zero, List.set_cons_succ, List.getElem?_cons_zero, List.getElem?_cons_succ, List.getElem?_nil, restE, Option.join, Option.bind_some, Option.bind_none, id_eq, if_true, if_false, Bool.false_eq_true, Bool.not_true, Bool.not_false, Bool.bne_false, Bool.bne_true, reduceIte, Bool.true_bne, Bool.false_bne, and_true, true_and, fnW, num_neE n]
  refine ⟨size_le (by rw [strPV_len]; omega), rfl, ?_⟩
  refine wComp_fm (fun _ => []) (fun x hx K acc hk => ?_) ?_
  · obtain ⟨c, hc, rfl⟩ := strPV_mem hx
    rw [tl_num'] at hc
    simp only [sSeq, sNext, sRet, sRetN, sRetV, sSet, sIf, sDrop, sTgt, sPar, sNever, wTmps, setAll, sFor, gNm, IL.gTup, gEach, tTrue, tTru, tOf, tNotW, tAndW, tOrW, oAnd, oOr, oNotT, oIf, oChain, oTup, oLst, wArgs, oPrim, withOps, evOps, Opd.ev, oC, oVar, oSl, partEv, oMeth, isStrPV, oComp, oComp2, iSeq, iRange1, iRange2, rgW, oDict0, lift1, lift2, Opr.rd, rdAll, e_rl, Option.map_some, Option.map_none, e_pv, e_po, e_tb, e_ti, e_tn, e_tl, e_tt, e_add, e_addS, e_addL, e_addT, e_sub, e_mul, e_mod, e_fdiv, e_pow, e_neg, e_lt, e_le, e_gt, e_ge, e_eqI, e_lenT, e_lenL, e_lenS, e_lenR, e_tupL, e_tupT, e_intI, e_isiI, e_isiIB, e_isiT, e_isiS, e_isN, e_isI, e_isS, e_isT, e_sqT, e_sqL, e_sqS, wipeE, IL.envOf, List.map_cons, List.map_nil, List.length_cons, List.length_nil, Nat.zero_add, Nat.reduceSub, Nat.reduceAdd, List.replicate, List.cons_append, List.nil_append, List.set_cons_zero, List.set_cons_succ, List.getElem?_cons_zero, List.getElem?_cons_succ, List.getElem?_nil, restE, Option.join, Option.bind_some, Option.bind_none, id_eq, if_true, if_false, Bool.false_eq_true, Bool.not_true, Bool.not_false, Bool.bne_false, Bool.bne_true, reduceIte, Bool.true_bne, Bool.false_bne, and_true, true_and, fnW]
    refine pNotIn_digit (numL_digits n c hc) ?_
    rw [List.append_nil] at hk
    exact hk
  · have e : ([] : List PV) ++ (strPV (num n)).flatMap (fun _ => ([] : List PV)) = [] := by simp
    rw [e]
    simp only [sSeq, sNext, sRet, sRetN, sRetV, sSet, sIf, sDrop, sTgt, sPar, sNever, wTmps, setAll, sFor, gNm, IL.gTup, gEach, tTrue, tTru, tOf, tNotW, tAndW, tOrW, oAnd, oOr, oNotT, oIf, oChain, oTup, oLst, wArgs, oPrim, withOps, evOps, Opd.ev, oC, oVar, oSl, partEv, oMeth, isStrPV, oComp, oComp2, iSeq, iRange1, iRange2, rgW, oDict0, lift1, lift2, Opr.rd, rdAll, e_rl, Option.map_some, Option.map_none, e_pv, e_po, e_tb, e_ti, e_tn, e_tl, e_tt, e_add, e_addS, e_addL, e_addT, e_sub, e_mul, e_mod, e_fdiv, e_pow, e_neg, e_lt, e_le, e_gt, e_ge, e_eqI, e_lenT, e_lenL, e_lenS, e_lenR, e_tupL, e_tupT, e_intI, e_isiI, e_isiIB, e_isiT, e_isiS, e_isN, e_isI, e_isS, e_isT, e_sqT, e_sqL, e_sqS, wipeE, IL.envOf, List.map_cons, List.map_nil, List.length_cons, List.length_nil, Nat.zero_add, Nat.reduceSub, Nat.reduceAdd, List.replicate, List.cons_append, List.nil_append, List.set_cons_zero, List.set_cons_succ, List.getElem?_cons_zero, List.getElem?_cons_succ, List.getElem?_nil, restE, Option.join, Option.bind_some, Option.bind_none, id_eq, if_true, if_false, Bool.false_eq_true, Bool.not_true, Bool.not_false, Bool.bne_false, Bool.bne_true, reduceIte, Bool.true_bne, Bool.false_bne, and_true, true_and, fnW]
    refine pEq_nils ?_
    simp only [sSeq, sNext, sRet, sRetN, sRetV, sSet, sIf, sDrop, sTgt, sPar, sNever, wTmps, setAll, sFor, gNm, IL.gTup, gEach, tTrue, tTru, tOf, tNotW, tAndW, tOrW, oAnd, oOr, oNotT, oIf, oChain, oTup, oLst, wArgs, oPrim, withOps, evOps, Opd.ev, oC, oVar, oSl, partEv, oMeth, isStrPV, oComp, oComp2, iSeq, iRange1, iRange2, rgW, oDict0, lift1, lift2, Opr.rd, rdAll, e_rl, Option.map_some, Option.map_none, e_pv, e_po, e_tb, e_ti, e_tn, e_tl, e_tt, e_add, e_addS, e_addL, e_addT, e_sub, e_mul, e_mod, e_fdiv, e_pow, e_neg, e_lt, e_le, e_gt, e_ge, e_eqI, e_lenT, e_lenL, e_lenS, e_lenR, e_tupL, e_tupT, e_intI, e_isiI, e_isiIB, e_isiT, e_isiS, e_isN, e_isI, e_isS, e_isT, e_sqT, e_sqL, e_sqS, wipeE, IL.envOf, List.map_cons, List.map_nil, List.length_cons, List.length_nil, Nat.zero_add, Nat.reduceSub, Nat.reduceAdd, List.replicate, List.cons_append, List.nil_append, List.set_cons_zero, List.set_cons_succ, List.getElem?_cons_zero, List.getElem?_cons_succ, List.getElem?_nil, restE, Option.join, Option.bind_some, Option.bind_none, id_eq, if_true, if_false, Bool.false_eq_true, Bool.not_true, Bool.not_false, Bool.bne_false, Bool.bne_true, reduceIte, Bool.true_bne, Bool.false_bne, and_true, true_and, fnW]
    refine ⟨size_le (by omega), ?_⟩
    by_cases h1 : (1 : Int) < ((num n).length : Int)
    · rw [if_pos (decide_eq_true h1)]
      refine ⟨size_le (by omega), ?_⟩
      have hlen : (tl (num n)).length = (num n).length := (TL.len_tl _).symm
      cases e : tl (num n) with
      | nil => rw [e] at hlen; simp at hlen; omega
      | cons c r =>
        have hr : r ≠ [] := by
          intro z
          rw [e, z] at hlen
          simp at hlen
          omega
        have h48 := num_first e hr
        have e3 : atI (num n).cps.toList 0 = some c := by
          have : (num n).cps.toList = c :: r := e
          rw [this]
          exact atI_at (j := 0) rfl rfl
        rw [e3]
        simp only [sSeq, sNext, sRet, sRetN, sRetV, sSet, sIf, sDrop, sTgt, sPar, sNever, wTmps, setAll, sFor, gNm, IL.gTup, gEach, tTrue, tTru, tOf, tNotW, tAndW, tOrW, oAnd, oOr, oNotT, oIf, oChain, oTup, oLst, wArgs, oPrim, withOps, evOps, Opd.ev, oC, oVar, oSl, partEv, oMeth, isStrPV, oComp, oComp2, iSeq, iRange1, iRange2, rgW, oDict0, lift1, lift2, Opr.rd, rdAll, e_rl, Option.map_some, Option.map_none, e_pv, e_po, e_tb, e_ti, e_tn, e_tl, e_tt, e_add, e_addS, e_addL, e_addT, e_sub, e_mul, e_mod, e_fdiv, e_pow, e_neg, e_lt, e_le, e_gt, e_ge, e_eqI, e_lenT, e_lenL, e_lenS, e_lenR, e_tupL, e_tupT, e_intI, e_isiI, e_isiIB, e_isiT, e_isiS, e_isN, e_isI, e_isS, e_isT, e_sqT, e_sqL, e_sqS, wipeE, IL.envOf, List.map_cons, List.map_nil, List.length_cons, List.length_nil, Nat.zero_add, Nat.reduceSub, Nat.reduceAdd, List.replicate, List.cons_append, List.nil_append, List.set_cons_zero, List.set_cons_succ, List.getElem?_cons_zero, List.getElem?_cons_succ, List.getElem?_nil, restE, Option.join, Option.bind_some, Option.bind_none, id_eq, if_true, if_false, Bool.false_eq_true, Bool.not_true, Bool.not_false, Bool.bne_false, Bool.bne_true, reduceIte, Bool.true_bne, Bool.false_bne, and_true, true_and, fnW]
        have hcd : c ∈ numL n := by rw [← tl_num', e]; exact List.mem_cons_self
        have hk : PyData.strOk ⟨#[c]⟩ = true := strOk_tl fun d hd => by
          have := numL_digits n c hcd
          rw [List.mem_singleton.mp hd]; omega
        refine pEq_str hk ok0 ?_
        have hne : ((⟨#[c]⟩ : Str) == ("0" : Str)) = false := by
          apply beq_eq_false_iff_ne.mpr
          intro e
          have := congrArg tl e
          rw [tl0] at this
          have : c = 48 := by injection this
          omega
        rw [hne]
        exact pInt_num hn h
    · rw [if_neg (by simpa using h1)]
      exact pInt_num hn h
theorem pIx_last {x : PV} {xs : List PV} (q : Q (.v x)) : pIx (.lst (xs ++ [x])) (.int (-1)) Q := by
  refine pIx_lst (y := x) ?_ q
  unfold atI ixN
  have h1 : ¬ (0 : Int) ≤ -1 := by decide
  have e : (-1 + (((xs.length : Nat) : Int) + 1)).toNat = xs.length := by omega
  have h2 : (1 : Int) ≤ ((xs.length : Nat) : Int) + 1 := by omega
  simp [e, h2]
theorem cut_head {x : PV} {xs : List PV} {y : PV} : cutPV (x :: (xs ++ [y])) (some 1) (some (-1)) = xs := by
  show (List.drop (min (1 : Int).toNat (x :: (xs ++ [y])).length) (x :: (xs ++ [y]))).take (((-1 : Int) + ((x :: (xs ++ [y])).length : Nat)).toNat - min (1 : Int).toNat (x :: (xs ++ [y])).length) = xs
  have e : min (1 : Int).toNat (x :: (xs ++ [y])).length = 1 := by simp
  have e2 : ((-1 : Int) + ((x :: (xs ++ [y])).length : Nat)).toNat - 1 = xs.length := by simp; omega
  rw [e, e2]
  simp
theorem tlPl : tl ("players " : Str) = [112, 108, 97, 121, 101, 114, 115, 32] := by decide +kernel
theorem okPls : PyData.strOk ("players " : Str) = true := by decide +kernel
theorem head_cut8 (m : Nat) : cutS (headS m) none (some 8) = ("players " : Str) := by
  apply ext_tl
  rw [tl_cut, tlPl, TL.len_tl, tl_head]
  show List.take (min (8 : Int).toNat ([112, 108, 97, 121, 101, 114, 115, 32] ++ numL m).length - 0) (List.drop 0 ([112, 108, 97, 121, 101, 114, 115, 32] ++ numL m)) = _
  have : min (8 : Int).toNat ([112, 108, 97, 121, 101, 114, 115, 32] ++ numL m).length - 0 = 8 := by simp
  rw [this]
  rfl
theorem head_cutr (m : Nat) : cutS (headS m) (some 8) none = num m := by
  apply ext_tl
  rw [tl_cut, tl_num', TL.len_tl, tl_head]
  show List.take (([112, 108, 97, 121, 101, 114, 115, 32] ++ numL m).length - min (8 : Int).toNat ([112, 108, 97, 121, 101, 114, 115, 32] ++ numL m).length) (List.drop (min (8 : Int).toNat ([112, 108, 97, 121, 101, 114, 115, 32] ++ numL m).length) ([112, 108, 97, 121, 101, 114, 115, 32] ++ numL m)) = _
  have : min (8 : Int).toNat ([112, 108, 97, 121, 101, 114, 115, 32] ++ numL m).length = 8 := by simp
  rw [this]
  simp
theorem i_law_read_games {m : Nat} {ws : List (Nat × Nat)} (g : Good m ws) (h : Q (.v (gPV m ws))) : F__law_read_games [.str (gText m ws)] Q := by
  have hL : (ws.map pPV).length ≤ 64 := by simpa using g.len
  have hW := g.len
  have m1 := g.m1
  have m8 := g.m8
  have gl := gText_len g
  have hhl := head_len (m := m) (by omega)
  have e1 : (linesS m ws ++ [("" : Str)]).map PV.str = .str (headS m) :: ((ws.map lineS).map PV.str ++ [.str ""]) := by simp [linesS]
  unfold F__law_read_games b__law_read_games
  simp only [sSeq, sNext, sRet, sRetN, sRetV, sSet, sIf, sDrop, sTgt, sPar, sNever, wTmps, setAll, sFor, gNm, IL.gTup, gEach, tTrue, tTru, tOf, tNotW, tAndW, tOrW, oAnd, oOr, oNotT, oIf, oChain, oTup, oLst, wArgs, oPrim, withOps, evOps, Opd.ev, oC, oVar, oSl, partEv, oMeth, isStrPV, oComp, oComp2, iSeq, iRange1, iRange2, rgW, oDict0, lift1, lift2, Opr.rd, rdAll, e_rl, Option.map_some, Option.map_none, e_pv, e_po, e_tb, e_ti, e_tn, e_tl, e_tt, e_add, e_addS, e_addL, e_addT, e_sub, e_mul, e_mod, e_fdiv, e_pow, e_neg, e_lt, e_le, e_gt, e_ge, e_eqI, e_lenT, e_lenL, e_lenS, e_lenR, e_tupL, e_tupT, e_intI, e_isiI, e_isiIB, e_isiT, e_isiS, e_isN, e_isI, e_isS, e_isT, e_sqT, e_sqL, e_sqS, wipeE, IL.envOf, List.map_cons, List.map_nil, List.length_cons, List.length_nil, Nat.zero_add, Nat.reduceSub, Nat.reduceAdd, List.replicate, List.cons_append, List.nil_append, List.set_cons_zero, List.set_cons_succ, List.getElem?_cons_zero, List.getElem?_cons_succ, List.getElem?_nil, restE, Option.join, Option.bind_some, Option.bind_none, id_eq, if_true, if_false, Bool.false_eq_true, Bool.not_true, Bool.not_false, Bool.bne_false, Bool.bne_true, reduceIte, Bool.true_bne, Bool.false_bne, and_true, true_and, fnW, oCall]
  refine pSplit_ok lenN0 (by omega) (by rw [split_g1]; simp [linesS]; omega) ?_
  rw [split_g1, e1]
  simp only [sSeq, sNext, sRet, sRetN, sRetV, sSet, sIf, sDrop, sTgt, sPar, sNever, wTmps, setAll, sFor, gNm, IL.gTup, gEach, tTrue, tTru, tOf, tNotW, tAndW, tOrW, oAnd, oOr, oNotT, oIf, oChain, oTup, oLst, wArgs, oPrim, withOps, evOps, Opd.ev, oC, oVar, oSl, partEv, oMeth, isStrPV, oComp, oComp2, iSeq, iRange1, iRange2, rgW, oDict0, lift1, lift2, Opr.rd, rdAll, e_rl, Option.map_some, Option.map_none, e_pv, e_po, e_tb, e_ti, e_tn, e_tl, e_tt, e_add, e_addS, e_addL, e_addT, e_sub, e_mul, e_mod, e_fdiv, e_pow, e_neg, e_lt, e_le, e_gt, e_ge, e_eqI, e_lenT, e_lenL, e_lenS, e_lenR, e_tupL, e_tupT, e_intI, e_isiI, e_isiIB, e_isiT, e_isiS, e_isN, e_isI, e_isS, e_isT, e_sqT, e_sqL, e_sqS, wipeE, IL.envOf, List.map_cons, List.map_nil, List.length_cons, List.length_nil, Nat.zero_add, Nat.reduceSub, Nat.reduceAdd, List.replicate, List.cons_append, List.nil_append, List.set_cons_zero, List.set_cons_succ, List.getElem?_cons_zero, List.getElem?_cons_succ, List.getElem?_nil, restE, Option.join, Option.bind_some, Option.bind_none, id_eq, if_true, if_false, Bool.false_eq_true, Bool.not_true, Bool.not_false, Bool.bne_false, Bool.bne_true, reduceIte, Bool.true_bne, Bool.false_bne, and_true, true_and, fnW]
  rw [if_neg (by simp; omega)]
  rw [← List.cons_append]
  refine pIx_last ?_
  simp only [sSeq, sNext, sRet, sRetN, sRetV, sSet, sIf, sDrop, sTgt, sPar, sNever, wTmps, setAll, sFor, gNm, IL.gTup, gEach, tTrue, tTru, tOf, tNotW, tAndW, tOrW, oAnd, oOr, oNotT, oIf, oChain, oTup, oLst, wArgs, oPrim, withOps, evOps, Opd.ev, oC, oVar, oSl, partEv, oMeth, isStrPV, oComp, oComp2, iSeq, iRange1, iRange2, rgW, oDict0, lift1, lift2, Opr.rd, rdAll, e_rl, Option.map_some, Option.map_none, e_pv, e_po, e_tb, e_ti, e_tn, e_tl, e_tt, e_add, e_addS, e_addL, e_addT, e_sub, e_mul, e_mod, e_fdiv, e_pow, e_neg, e_lt, e_le, e_gt, e_ge, e_eqI, e_lenT, e_lenL, e_lenS, e_lenR, e_tupL, e_tupT, e_intI, e_isiI, e_isiIB, e_isiT, e_isiS, e_isN, e_isI, e_isS, e_isT, e_sqT, e_sqL, e_sqS, wipeE, IL.envOf, List.map_cons, List.map_nil, List.length_cons, List.length_nil, Nat.zero_add, Nat.reduceSub, Nat.reduceAdd, List.replicate, List.cons_append, List.nil_append, List.set_cons_zero, List.set_cons_succ, List.getElem?_cons_zero, List.getElem?_cons_succ, List.getElem?_nil, restE, Option.join, Option.bind_some, Option.bind_none, id_eq, if_true, if_false, Bool.false_eq_true, Bool.not_true, Bool.not_false, Bool.bne_false, Bool.bne_true, reduceIte, Bool.true_bne, Bool.false_bne, and_true, true_and, fnW]
  refine pEq_str okE okE ?_
  simp only [sSeq, sNext, sRet, sRetN, sRetV, sSet, sIf, sDrop, sTgt, sPar, sNever, wTmps, setAll, sFor, gNm, IL.gTup, gEach, tTrue, tTru, tOf, tNotW, tAndW, tOrW, oAnd, oOr, oNotT, oIf, oChain, oTup, oLst, wArgs, oPrim, withOps, evOps, Opd.ev, oC, oVar, oSl, partEv, oMeth, isStrPV, oComp, oComp2, iSeq, iRange1, iRange2, rgW, oDict0, lift1, lift2, Opr.rd, rdAll, e_rl, Option.map_some, Option.map_none, e_pv, e_po, e_tb, e_ti, e_tn, e_tl, e_tt, e_add, e_addS, e_addL, e_addT, e_sub, e_mul, e_mod, e_fdiv, e_pow, e_neg, e_lt, e_le, e_gt, e_ge, e_eqI, e_lenT, e_lenL, e_lenS, e_lenR, e_tupL, e_tupT, e_intI, e_isiI, e_isiIB, e_isiT, e_isiS, e_isN, e_isI, e_isS, e_isT, e_sqT, e_sqL, e_sqS, wipeE, IL.envOf, List.map_cons, List.map_nil, List.length_cons, List.length_nil, Nat.zero_add, Nat.reduceSub, Nat.reduceAdd, List.replicate, List.cons_append, List.nil_append, List.set_cons_zero, List.set_cons_succ, List.getElem?_cons_zero, List.getElem?_cons_succ, List.getElem?_nil, restE, Option.join, Option.bind_some, Option.bind_none, id_eq, if_true, if_false, Bool.false_eq_true, Bool.not_true, Bool.not_false, Bool.bne_false, Bool.bne_true, reduceIte, Bool.true_bne, Bool.false_bne, and_true, true_and, fnW, beq_self_eq_true, bne_self_eq_false]
  refine pIx_lst0 ?_
  simp only [sSeq, sNext, sRet, sRetN, sRetV, sSet, sIf, sDrop, sTgt, sPar, sNever, wTmps, setAll, sFor, gNm, IL.gTup, gEach, tTrue, tTru, tOf, tNotW, tAndW, tOrW, oAnd, oOr, oNotT, oIf, oChain, oTup, oLst, wArgs, oPrim, withOps, evOps, Opd.ev, oC, oVar, oSl, partEv, oMeth, isStrPV, oComp, oComp2, iSeq, iRange1, iRange2, rgW, oDict0, lift1, lift2, Opr.rd, rdAll, e_rl, Option.map_some, Option.map_none, e_pv, e_po, e_tb, e_ti, e_tn, e_tl, e_tt, e_add, e_addS, e_addL, e_addT, e_sub, e_mul, e_mod, e_fdiv, e_pow, e_neg, e_lt, e_le, e_gt, e_ge, e_eqI, e_lenT, e_lenL, e_lenS, e_lenR, e_tupL, e_tupT, e_intI, e_isiI, e_isiIB, e_isiT, e_isiS, e_isN, e_isI, e_isS, e_isT, e_sqT, e_sqL, e_sqS, wipeE, IL.envOf, List.map_cons, List.map_nil, List.length_cons, List.length_nil, Nat.zero_add, Nat.reduceSub, Nat.reduceAdd, List.replicate, List.cons_append, List.nil_append, List.set_cons_zero, List.set_cons_succ, List.getElem?_cons_zero, List.getElem?_cons_succ, List.getElem?_nil, restE, Option.join, Option.bind_some, Option.bind_none, id_eq, if_true, if_false, Bool.false_eq_true, Bool.not_true, Bool.not_false, Bool.bne_false, Bool.bne_true, reduceIte, Bool.true_bne, Bool.false_bne, and_true, true_and, fnW]
  refine ⟨size_le (by omega), ?_⟩
  rw [head_cut8]
  refine pEq_str okPls okPls ?_
  simp only [sSeq, sNext, sRet, sRetN, sRetV, sSet, sIf, sDrop, sTgt, sPar, sNever, wTmps, setAll, sFor, gNm, IL.gTup, gEach, tTrue, tTru, tOf, tNotW, tAndW, tOrW, oAnd, oOr, oNotT, oIf, oChain, oTup, oLst, wArgs, oPrim, withOps, evOps, Opd.ev, oC, oVar, oSl, partEv, oMeth, isStrPV, oComp, oComp2, iSeq, iRange1, iRange2, rgW, oDict0, lift1, lift2, Opr.rd, rdAll, e_rl, Option.map_some, Option.map_none, e_pv, e_po, e_tb, e_ti, e_tn, e_tl, e_tt, e_add, e_addS, e_addL, e_addT, e_sub, e_mul, e_mod, e_fdiv, e_pow, e_neg, e_lt, e_le, e_gt, e_ge, e_eqI, e_lenT, e_lenL, e_lenS, e_lenR, e_tupL, e_tupT, e_intI, e_isiI, e_isiIB, e_isiT, e_isiS, e_isN, e_isI, e_isS, e_isT, e_sqT, e_sqL, e_sqS, wipeE, IL.envOf, List.map_cons, List.map_nil, List.length_cons, List.length_nil, Nat.zero_add, Nat.reduceSub, Nat.reduceAdd, List.replicate, List.cons_append, List.nil_append, List.set_cons_zero, List.set_cons_succ, List.getElem?_cons_zero, List.getElem?_cons_succ, List.getElem?_nil, restE, Option.join, Option.bind_some, Option.bind_none, id_eq, if_true, if_false, Bool.false_eq_true, Bool.not_true, Bool.not_false, Bool.bne_false, Bool.bne_true, reduceIte, Bool.true_bne, Bool.false_bne, and_true, true_and, fnW, beq_self_eq_true, bne_self_eq_false]
  refine pIx_lst0 ?_
  simp only [sSeq, sNext, sRet, sRetN, sRetV, sSet, sIf, sDrop, sTgt, sPar, sNever, wTmps, setAll, sFor, gNm, IL.gTup, gEach, tTrue, tTru, tOf, tNotW, tAndW, tOrW, oAnd, oOr, oNotT, oIf, oChain, oTup, oLst, wArgs, oPrim, withOps, evOps, Opd.ev, oC, oVar, oSl, partEv, oMeth, isStrPV, oComp, oComp2, iSeq, iRange1, iRange2, rgW, oDict0, lift1, lift2, Opr.rd, rdAll, e_rl, Option.map_some, Option.map_none, e_pv, e_po, e_tb, e_ti, e_tn, e_tl, e_tt, e_add, e_addS, e_addL, e_addT, e_sub, e_mul, e_mod, e_fdiv, e_pow, e_neg, e_lt, e_le, e_gt, e_ge, e_eqI, e_lenT, e_lenL, e_lenS, e_lenR, e_tupL, e_tupT, e_intI, e_isiI, e_isiIB, e_isiT, e_isiS, e_isN, e_isI, e_isS, e_isT, e_sqT, e_sqL, e_sqS, wipeE, IL.envOf, List.map_cons, List.map_nil, List.length_cons, List.length_nil, Nat.zero_add, Nat.reduceSub, Nat.reduceAdd, List.replicate, List.cons_append, List.nil_append, List.set_cons_zero, List.set_cons_succ, List.getElem?_cons_zero, List.getElem?_cons_succ, List.getElem?_nil, restE, Option.join, Option.bind_some, Option.bind_none, id_eq, if_true, if_false, Bool.false_eq_true, Bool.not_true, Bool.not_false, Bool.bne_false, Bool.bne_true, reduceIte, Bool.true_bne, Bool.false_bne, and_true, true_and, fnW]
  refine ⟨size_le (by omega), ?_⟩
  rw [head_cutr]
  refine i_law_figures (small_b (by omega)) ?_
  have d1 : decide ((0 : Int) < (m : Int)) = true := decide_eq_true (by omega)
  have d2 : decide ((m : Int) < 9) = true := decide_eq_true (by omega)
  simp only [sSeq, sNext, sRet, sRetN, sRetV, sSet, sIf, sDrop, sTgt, sPar, sNever, wTmps, setAll, sFor, gNm, IL.gTup, gEach, tTrue, tTru, tOf, tNotW, tAndW, tOrW, oAnd, oOr, oNotT, oIf, oChain, oTup, oLst, wArgs, oPrim, withOps, evOps, Opd.ev, oC, oVar, oSl, partEv, oMeth, isStrPV, oComp, oComp2, iSeq, iRange1, iRange2, rgW, oDict0, lift1, lift2, Opr.rd, rdAll, e_rl, Option.map_some, Option.map_none, e_pv, e_po, e_tb, e_ti, e_tn, e_tl, e_tt, e_add, e_addS, e_addL, e_addT, e_sub, e_mul, e_mod, e_fdiv, e_pow, e_neg, e_lt, e_le, e_gt, e_ge, e_eqI, e_lenT, e_lenL, e_lenS, e_lenR, e_tupL, e_tupT, e_intI, e_isiI, e_isiIB, e_isiT, e_isiS, e_isN, e_isI, e_isS, e_isT, e_sqT, e_sqL, e_sqS, wipeE, IL.envOf, List.map_cons, List.map_nil, List.length_cons, List.length_nil, Nat.zero_add, Nat.reduceSub, Nat.reduceAdd, List.replicate, List.cons_append, List.nil_append, List.set_cons_zero, List.set_cons_succ, List.getElem?_cons_zero, List.getElem?_cons_succ, List.getElem?_nil, restE, Option.join, Option.bind_some, Option.bind_none, id_eq, if_true, if_false, Bool.false_eq_true, Bool.not_true, Bool.not_false, Bool.bne_false, Bool.bne_true, reduceIte, Bool.true_bne, Bool.false_bne, and_true, true_and, fnW, z_Iisfalse, d1, d2]
  show wFor _ _ (cutPV (PV.str (headS m) :: (List.map PV.str (List.map lineS ws) ++ [PV.str ("" : Str)])) (some 1) (some (-1))) _ _
  rw [cut_head]
  refine wFor_inv (fun xs e => ∃ (pre suf : List (Nat × Nat)) (e4 e5 : Option TV), ws = pre ++ suf ∧ xs = (suf.map lineS).map PV.str ∧ e = [some (.v (.str (gText m ws))), some (.own (.lst (PV.str (headS m) :: (List.map PV.str (List.map lineS ws) ++ [PV.str ("" : Str)])))), some (.v (.int m)), some (.own (.lst (pre.map pPV))), e4, e5, none]) (fun e ⟨pre, suf, e4, e5, h1, h2, he⟩ => ?_) ⟨[], ws, none, none, rfl, rfl, rfl⟩ (fun x xs e ⟨pre, suf, e4, e5, h1, h2, he⟩ K hK => ?_)
  · subst he
    have : suf = [] := List.map_eq_nil_iff.mp (List.map_eq_nil_iff.mp h2.symm)
    subst this
    rw [List.append_nil] at h1
    subst h1
    simp only [sSeq, sNext, sRet, sRetN, sRetV, sSet, sIf, sDrop, sTgt, sPar, sNever, wTmps, setAll, sFor, gNm, IL.gTup, gEach, tTrue, tTru, tOf, tNotW, tAndW, tOrW, oAnd, oOr, oNotT, oIf, oChain, oTup, oLst, wArgs, oPrim, withOps, evOps, Opd.ev, oC, oVar, oSl, partEv, oMeth, isStrPV, oComp, oComp2, iSeq, iRange1, iRange2, rgW, oDict0, lift1, lift2, Opr.rd, rdAll, e_rl, Option.map_some, Option.map_none, e_pv, e_po, e_tb, e_ti, e_tn, e_tl, e_tt, e_add, e_addS, e_addL, e_addT, e_sub, e_mul, e_mod, e_fdiv, e_pow, e_neg, e_lt, e_le, e_gt, e_ge, e_eqI, e_lenT, e_lenL, e_lenS, e_lenR, e_tupL, e_tupT, e_intI, e_isiI, e_isiIB, e_isiT, e_isiS, e_isN, e_isI, e_isS, e_isT, e_sqT, e_sqL, e_sqS, wipeE, IL.envOf, List.map_cons, List.map_nil, List.length_cons, List.length_nil, Nat.zero_add, Nat.reduceSub, Nat.reduceAdd, List.replicate, List.cons_append, List.nil_append, List.set_cons_zero, List.set_cons_succ, List.getElem?_cons_zero, List.getElem?_cons_succ, List.getElem?_nil, restE, Option.join, Option.bind_some, Option.bind_none, id_eq, if_true, if_false, Bool.false_eq_true, Bool.not_true, Bool.not_false, Bool.bne_false, Bool.bne_true, reduceIte, Bool.true_bne, Bool.false_bne, and_true, true_and, fnW, oCall]
    refine i_law_are_games g ?_
    simp only [sSeq, sNext, sRet, sRetN, sRetV, sSet, sIf, sDrop, sTgt, sPar, sNever, wTmps, setAll, sFor, gNm, IL.gTup, gEach, tTrue, tTru, tOf, tNotW, tAndW, tOrW, oAnd, oOr, oNotT, oIf, oChain, oTup, oLst, wArgs, oPrim, withOps, evOps, Opd.ev, oC, oVar, oSl, partEv, oMeth, isStrPV, oComp, oComp2, iSeq, iRange1, iRange2, rgW, oDict0, lift1, lift2, Opr.rd, rdAll, e_rl, Option.map_some, Option.map_none, e_pv, e_po, e_tb, e_ti, e_tn, e_tl, e_tt, e_add, e_addS, e_addL, e_addT, e_sub, e_mul, e_mod, e_fdiv, e_pow, e_neg, e_lt, e_le, e_gt, e_ge, e_eqI, e_lenT, e_lenL, e_lenS, e_lenR, e_tupL, e_tupT, e_intI, e_isiI, e_isiIB, e_isiT, e_isiS, e_isN, e_isI, e_isS, e_isT, e_sqT, e_sqL, e_sqS, wipeE, IL.envOf, List.map_cons, List.map_nil, List.length_cons, List.length_nil, Nat.zero_add, Nat.reduceSub, Nat.reduceAdd, List.replicate, List.cons_append, List.nil_append, List.set_cons_zero, List.set_cons_succ, List.getElem?_cons_zero, List.getElem?_cons_succ, List.getElem?_nil, restE, Option.join, Option.bind_some, Option.bind_none, id_eq, if_true, if_false, Bool.false_eq_true, Bool.not_true, Bool.not_false, Bool.bne_false, Bool.bne_true, reduceIte, Bool.true_bne, Bool.false_bne, and_true, true_and, fnW]
    exact h
  · subst he
    cases suf with
    | nil => cases h2
    | cons p suf =>
      rw [List.map_cons, List.map_cons] at h2
      injection h2 with h2 h4
      subst h2 h4
      have r := g.rng p (by rw [h1]; simp)
      have hlp := line_len (p := p) (by omega) (by omega)
      have hpl : (pre.map pPV).length < sizeLine := by
        have := size_le (n := pre.length + 1) (by have : (pre ++ p :: suf).length ≤ 64 := by rw [← h1]; exact hW
                                                  simp at this; omega)
        simp; omega
      have k1 := small_b (n := p.1) (by omega)
      have k2 := small_b (n := p.2) (by omega)
      simp only [sSeq, sNext, sRet, sRetN, sRetV, sSet, sIf, sDrop, sTgt, sPar, sNever, wTmps, setAll, sFor, gNm, IL.gTup, gEach, tTrue, tTru, tOf, tNotW, tAndW, tOrW, oAnd, oOr, oNotT, oIf, oChain, oTup, oLst, wArgs, oPrim, withOps, evOps, Opd.ev, oC, oVar, oSl, partEv, oMeth, isStrPV, oComp, oComp2, iSeq, iRange1, iRange2, rgW, oDict0, lift1, lift2, Opr.rd, rdAll, e_rl, Option.map_some, Option.map_none, e_pv, e_po, e_tb, e_ti, e_tn, e_tl, e_tt, e_add, e_addS, e_addL, e_addT, e_sub, e_mul, e_mod, e_fdiv, e_pow, e_neg, e_lt, e_le, e_gt, e_ge, e_eqI, e_lenT, e_lenL, e_lenS, e_lenR, e_tupL, e_tupT, e_intI, e_isiI, e_isiIB, e_isiT, e_isiS, e_isN, e_isI, e_isS, e_isT, e_sqT, e_sqL, e_sqS, wipeE, IL.envOf, List.map_cons, List.map_nil, List.length_cons, List.length_nil, Nat.zero_add, Nat.reduceSub, Nat.reduceAdd, List.replicate, List.cons_append, List.nil_append, List.set_cons_zero, List.set_cons_succ, List.getElem?_cons_zero, List.getElem?_cons_succ, List.getElem?_nil, restE, Option.join, Option.bind_some, Option.bind_none, id_eq, if_true, if_false, Bool.false_eq_true, Bool.not_true, Bool.not_false, Bool.bne_false, Bool.bne_true, reduceIte, Bool.true_bne, Bool.false_bne, and_true, true_and, fnW, oCall]
      refine pSplit_ok lenB0 (by omega) (by rw [split_line]; simp) ?_
      rw [split_line]
      simp only [sSeq, sNext, sRet, sRetN, sRetV, sSet, sIf, sDrop, sTgt, sPar, sNever, wTmps, setAll, sFor, gNm, IL.gTup, gEach, tTrue, tTru, tOf, tNotW, tAndW, tOrW, oAnd, oOr, oNotT, oIf, oChain, oTup, oLst, wArgs, oPrim, withOps, evOps, Opd.ev, oC, oVar, oSl, partEv, oMeth, isStrPV, oComp, oComp2, iSeq, iRange1, iRange2, rgW, oDict0, lift1, lift2, Opr.rd, rdAll, e_rl, Option.map_some, Option.map_none, e_pv, e_po, e_tb, e_ti, e_tn, e_tl, e_tt, e_add, e_addS, e_addL, e_addT, e_sub, e_mul, e_mod, e_fdiv, e_pow, e_neg, e_lt, e_le, e_gt, e_ge, e_eqI, e_lenT, e_lenL, e_lenS, e_lenR, e_tupL, e_tupT, e_intI, e_isiI, e_isiIB, e_isiT, e_isiS, e_isN, e_isI, e_isS, e_isT, e_sqT, e_sqL, e_sqS, wipeE, IL.envOf, List.map_cons, List.map_nil, List.length_cons, List.length_nil, Nat.zero_add, Nat.reduceSub, Nat.reduceAdd, List.replicate, List.cons_append, List.nil_append, List.set_cons_zero, List.set_cons_succ, List.getElem?_cons_zero, List.getElem?_cons_succ, List.getElem?_nil, restE, Option.join, Option.bind_some, Option.bind_none, id_eq, if_true, if_false, Bool.false_eq_true, Bool.not_true, Bool.not_false, Bool.bne_false, Bool.bne_true, reduceIte, Bool.true_bne, Bool.false_bne, and_true, true_and, fnW]
      rw [if_neg (by decide)]
      refine pIx_lst (y := .str "beat") (atI_at (j := 1) rfl rfl) ?_
      refine pEq_str okBeat okBeat ?_
      simp only [sSeq, sNext, sRet, sRetN, sRetV, sSet, sIf, sDrop, sTgt, sPar, sNever, wTmps, setAll, sFor, gNm, IL.gTup, gEach, tTrue, tTru, tOf, tNotW, tAndW, tOrW, oAnd, oOr, oNotT, oIf, oChain, oTup, oLst, wArgs, oPrim, withOps, evOps, Opd.ev, oC, oVar, oSl, partEv, oMeth, isStrPV, oComp, oComp2, iSeq, iRange1, iRange2, rgW, oDict0, lift1, lift2, Opr.rd, rdAll, e_rl, Option.map_some, Option.map_none, e_pv, e_po, e_tb, e_ti, e_tn, e_tl, e_tt, e_add, e_addS, e_addL, e_addT, e_sub, e_mul, e_mod, e_fdiv, e_pow, e_neg, e_lt, e_le, e_gt, e_ge, e_eqI, e_lenT, e_lenL, e_lenS, e_lenR, e_tupL, e_tupT, e_intI, e_isiI, e_isiIB, e_isiT, e_isiS, e_isN, e_isI, e_isS, e_isT, e_sqT, e_sqL, e_sqS, wipeE, IL.envOf, List.map_cons, List.map_nil, List.length_cons, List.length_nil, Nat.zero_add, Nat.reduceSub, Nat.reduceAdd, List.replicate, List.cons_append, List.nil_append, List.set_cons_zero, List.set_cons_succ, List.getElem?_cons_zero, List.getElem?_cons_succ, List.getElem?_nil, restE, Option.join, Option.bind_some, Option.bind_none, id_eq, if_true, if_false, Bool.false_eq_true, Bool.not_true, Bool.not_false, Bool.bne_false, Bool.bne_true, reduceIte, Bool.true_bne, Bool.false_bne, and_true, true_and, fnW, beq_self_eq_true, bne_self_eq_false]
      refine pIx_lst (y := .str (num p.1)) (atI_at (j := 0) rfl rfl) ?_
      refine i_law_figures k1 ?_
      simp only [sSeq, sNext, sRet, sRetN, sRetV, sSet, sIf, sDrop, sTgt, sPar, sNever, wTmps, setAll, sFor, gNm, IL.gTup, gEach, tTrue, tTru, tOf, tNotW, tAndW, tOrW, oAnd, oOr, oNotT, oIf, oChain, oTup, oLst, wArgs, oPrim, withOps, evOps, Opd.ev, oC, oVar, oSl, partEv, oMeth, isStrPV, oComp, oComp2, iSeq, iRange1, iRange2, rgW, oDict0, lift1, lift2, Opr.rd, rdAll, e_rl, Option.map_some, Option.map_none, e_pv, e_po, e_tb, e_ti, e_tn, e_tl, e_tt, e_add, e_addS, e_addL, e_addT, e_sub, e_mul, e_mod, e_fdiv, e_pow, e_neg, e_lt, e_le, e_gt, e_ge, e_eqI, e_lenT, e_lenL, e_lenS, e_lenR, e_tupL, e_tupT, e_intI, e_isiI, e_isiIB, e_isiT, e_isiS, e_isN, e_isI, e_isS, e_isT, e_sqT, e_sqL, e_sqS, wipeE, IL.envOf, List.map_cons, List.map_nil, List.length_cons, List.length_nil, Nat.zero_add, Nat.reduceSub, Nat.reduceAdd, List.replicate, List.cons_append, List.nil_append, List.set_cons_zero, List.set_cons_succ, List.getElem?_cons_zero, List.getElem?_cons_succ, List.getElem?_nil, restE, Option.join, Option.bind_some, Option.bind_none, id_eq, if_true, if_false, Bool.false_eq_true, Bool.not_true, Bool.not_false, Bool.bne_false, Bool.bne_true, reduceIte, Bool.true_bne, Bool.false_bne, and_true, true_and, fnW, z_Iisfalse]
      refine pIx_lst (y := .str (num p.2)) (atI_at (j := 2) rfl rfl) ?_
      refine i_law_figures k2 ?_
      simp only [sSeq, sNext, sRet, sRetN, sRetV, sSet, sIf, sDrop, sTgt, sPar, sNever, wTmps, setAll, sFor, gNm, IL.gTup, gEach, tTrue, tTru, tOf, tNotW, tAndW, tOrW, oAnd, oOr, oNotT, oIf, oChain, oTup, oLst, wArgs, oPrim, withOps, evOps, Opd.ev, oC, oVar, oSl, partEv, oMeth, isStrPV, oComp, oComp2, iSeq, iRange1, iRange2, rgW, oDict0, lift1, lift2, Opr.rd, rdAll, e_rl, Option.map_some, Option.map_none, e_pv, e_po, e_tb, e_ti, e_tn, e_tl, e_tt, e_add, e_addS, e_addL, e_addT, e_sub, e_mul, e_mod, e_fdiv, e_pow, e_neg, e_lt, e_le, e_gt, e_ge, e_eqI, e_lenT, e_lenL, e_lenS, e_lenR, e_tupL, e_tupT, e_intI, e_isiI, e_isiIB, e_isiT, e_isiS, e_isN, e_isI, e_isS, e_isT, e_sqT, e_sqL, e_sqS, wipeE, IL.envOf, List.map_cons, List.map_nil, List.length_cons, List.length_nil, Nat.zero_add, Nat.reduceSub, Nat.reduceAdd, List.replicate, List.cons_append, List.nil_append, List.set_cons_zero, List.set_cons_succ, List.getElem?_cons_zero, List.getElem?_cons_succ, List.getElem?_nil, restE, Option.join, Option.bind_some, Option.bind_none, id_eq, if_true, if_false, Bool.false_eq_true, Bool.not_true, Bool.not_false, Bool.bne_false, Bool.bne_true, reduceIte, Bool.true_bne, Bool.false_bne, and_true, true_and, fnW, z_Iisfalse, oApp, ownL, oCall]
      refine pIx_lst (y := .str (num p.1)) (atI_at (j := 0) rfl rfl) ?_
      refine i_law_figures k1 ?_
      simp only [sSeq, sNext, sRet, sRetN, sRetV, sSet, sIf, sDrop, sTgt, sPar, sNever, wTmps, setAll, sFor, gNm, IL.gTup, gEach, tTrue, tTru, tOf, tNotW, tAndW, tOrW, oAnd, oOr, oNotT, oIf, oChain, oTup, oLst, wArgs, oPrim, withOps, evOps, Opd.ev, oC, oVar, oSl, partEv, oMeth, isStrPV, oComp, oComp2, iSeq, iRange1, iRange2, rgW, oDict0, lift1, lift2, Opr.rd, rdAll, e_rl, Option.map_some, Option.map_none, e_pv, e_po, e_tb, e_ti, e_tn, e_tl, e_tt, e_add, e_addS, e_addL, e_addT, e_sub, e_mul, e_mod, e_fdiv, e_pow, e_neg, e_lt, e_le, e_gt, e_ge, e_eqI, e_lenT, e_lenL, e_lenS, e_lenR, e_tupL, e_tupT, e_intI, e_isiI, e_isiIB, e_isiT, e_isiS, e_isN, e_isI, e_isS, e_isT, e_sqT, e_sqL, e_sqS, wipeE, IL.envOf, List.map_cons, List.map_nil, List.length_cons, List.length_nil, Nat.zero_add, Nat.reduceSub, Nat.reduceAdd, List.replicate, List.cons_append, List.nil_append, List.set_cons_zero, List.set_cons_succ, List.getElem?_cons_zero, List.getElem?_cons_succ, List.getElem?_nil, restE, Option.join, Option.bind_some, Option.bind_none, id_eq, if_true, if_false, Bool.false_eq_true, Bool.not_true, Bool.not_false, Bool.bne_false, Bool.bne_true, reduceIte, Bool.true_bne, Bool.false_bne, and_true, true_and, fnW]
      refine pIx_lst (y := .str (num p.2)) (atI_at (j := 2) rfl rfl) ?_
      refine i_law_figures k2 ?_
      simp only [sSeq, sNext, sRet, sRetN, sRetV, sSet, sIf, sDrop, sTgt, sPar, sNever, wTmps, setAll, sFor, gNm, IL.gTup, gEach, tTrue, tTru, tOf, tNotW, tAndW, tOrW, oAnd, oOr, oNotT, oIf, oChain, oTup, oLst, wArgs, oPrim, withOps, evOps, Opd.ev, oC, oVar, oSl, partEv, oMeth, isStrPV, oComp, oComp2, iSeq, iRange1, iRange2, rgW, oDict0, lift1, lift2, Opr.rd, rdAll, e_rl, Option.map_some, Option.map_none, e_pv, e_po, e_tb, e_ti, e_tn, e_tl, e_tt, e_add, e_addS, e_addL, e_addT, e_sub, e_mul, e_mod, e_fdiv, e_pow, e_neg, e_lt, e_le, e_gt, e_ge, e_eqI, e_lenT, e_lenL, e_lenS, e_lenR, e_tupL, e_tupT, e_intI, e_isiI, e_isiIB, e_isiT, e_isiS, e_isN, e_isI, e_isS, e_isT, e_sqT, e_sqL, e_sqS, wipeE, IL.envOf, List.map_cons, List.map_nil, List.length_cons, List.length_nil, Nat.zero_add, Nat.reduceSub, Nat.reduceAdd, List.replicate, List.cons_append, List.nil_append, List.set_cons_zero, List.set_cons_succ, List.getElem?_cons_zero, List.getElem?_cons_succ, List.getElem?_nil, restE, Option.join, Option.bind_some, Option.bind_none, id_eq, if_true, if_false, Bool.false_eq_true, Bool.not_true, Bool.not_false, Bool.bne_false, Bool.bne_true, reduceIte, Bool.true_bne, Bool.false_bne, and_true, true_and, fnW, ownL]
      exact ⟨hpl, hK _ ⟨pre ++ [p], suf, _, _, by rw [h1]; simp, rfl, by rw [List.map_append]; rfl⟩⟩
end ILaw

namespace ILaw
open PySem PySem.Spec PyProof.Rows L2 IL TL
variable {Q : TV → Prop}
def rowS (p : Nat × Nat) : Str := ((num p.1 ++ (" beat " : Str)) ++ num p.2) ++ ("\n" : Str)
def rowPV : PV → PV
  | .tup [.int a, .int b] => .str (rowS (a.toNat, b.toNat))
  | _ => .non
theorem tlbt : tl (" beat " : Str) = [32, 98, 101, 97, 116, 32] := by decide +kernel
theorem gText_law (m : Nat) (ws : List (Nat × Nat)) : ((("players " : Str) ++ num m) ++ ("\n" : Str)) ++ Txt.join "" (ws.map rowS) = gText m ws := by
  apply ext_tl
  unfold gText
  rw [tl_append, tl_append, tl_append, tlJ, tlJ, tlE, joinL_nil, joinL_nil, tlPl, tlN, tl_num']
  unfold linesS
  rw [List.map_cons, List.map_cons, List.flatten_cons, tl_append, tlN, tl_head]
  rw [List.map_map, List.map_map, List.map_map]
  congr 2
theorem lenBt : (" beat " : Str).length = 6 := by decide +kernel
theorem lenN1 : ("\n" : Str).length = 1 := by decide +kernel
theorem lenPs : ("players " : Str).length = 8 := by decide +kernel
theorem i_law_games_text {m : Nat} {ws : List (Nat × Nat)} (g : Good m ws) (h : Q (.v (.str (gText m ws)))) : F__law_games_text [gPV m ws] Q := by
  have hL : (ws.map pPV).length ≤ 64 := by simpa using g.len
  have hW := g.len
  have m8 := g.m8
  have gl := gText_len g
  have hm := numlen (small_b (n := m) (by omega))
  unfold F__law_games_text b__law_games_text
  simp only [sSeq, sNext, sRet, sRetN, sRetV, sSet, sIf, sDrop, sTgt, sPar, sNever, wTmps, setAll, sFor, gNm, IL.gTup, gEach, tTrue, tTru, tOf, tNotW, tAndW, tOrW, oAnd, oOr, oNotT, oIf, oChain, oTup, oLst, wArgs, oPrim, withOps, evOps, Opd.ev, oC, oVar, oSl, partEv, oMeth, isStrPV, oComp, oComp2, iSeq, iRange1, iRange2, rgW, oDict0, lift1, lift2, Opr.rd, rdAll, e_rl, Option.map_some, Option.map_none, e_pv, e_po, e_tb, e_ti, e_tn, e_tl, e_tt, e_add, e_addS, e_addL, e_addT, e_sub, e_mul, e_mod, e_fdiv, e_pow, e_neg, e_lt, e_le, e_gt, e_ge, e_eqI, e_lenT, e_lenL, e_lenS, e_lenR, e_tupL, e_tupT, e_intI, e_isiI, e_isiIB, e_isiT, e_isiS, e_isN, e_isI, e_isS, e_isT, e_sqT, e_sqL, e_sqS, wipeE, IL.envOf, List.map_cons, List.map_nil, List.length_cons, List.length_nil, Nat.zero_add, Nat.reduceSub, Nat.reduceAdd, List.replicate, List.cons_append, List.nil_append, List.set_cons_zero, List.set_cons_succ, List.getElem?_cons_zero, List.getElem?_cons_succ, List.getElem?_nil, restE, Option.join, Option.bind_some, Option.bind_none, id_eq, if_true, if_false, Bool.false_eq_true, Bool.not_true, Bool.not_false, Bool.bne_false, Bool.bne_true, reduceIte, Bool.true_bne, Bool.false_bne, and_true, true_and, fnW]
  refine pIx_tup0 ?_
  simp only [sSeq, sNext, sRet, sRetN, sRetV, sSet, sIf, sDrop, sTgt, sPar, sNever, wTmps, setAll, sFor, gNm, IL.gTup, gEach, tTrue, tTru, tOf, tNotW, tAndW, tOrW, oAnd, oOr, oNotT, oIf, oChain, oTup, oLst, wArgs, oPrim, withOps, evOps, Opd.ev, oC, oVar, oSl, partEv, oMeth, isStrPV, oComp, oComp2, iSeq, iRange1, iRange2, rgW, oDict0, lift1, lift2, Opr.rd, rdAll, e_rl, Option.map_some, Option.map_none, e_pv, e_po, e_tb, e_ti, e_tn, e_tl, e_tt, e_add, e_addS, e_addL, e_addT, e_sub, e_mul, e_mod, e_fdiv, e_pow, e_neg, e_lt, e_le, e_gt, e_ge, e_eqI, e_lenT, e_lenL, e_lenS, e_lenR, e_tupL, e_tupT, e_intI, e_isiI, e_isiIB, e_isiT, e_isiS, e_isN, e_isI, e_isS, e_isT, e_sqT, e_sqL, e_sqS, wipeE, IL.envOf, List.map_cons, List.map_nil, List.length_cons, List.length_nil, Nat.zero_add, Nat.reduceSub, Nat.reduceAdd, List.replicate, List.cons_append, List.nil_append, List.set_cons_zero, List.set_cons_succ, List.getElem?_cons_zero, List.getElem?_cons_succ, List.getElem?_nil, restE, Option.join, Option.bind_some, Option.bind_none, id_eq, if_true, if_false, Bool.false_eq_true, Bool.not_true, Bool.not_false, Bool.bne_false, Bool.bne_true, reduceIte, Bool.true_bne, Bool.false_bne, and_true, true_and, fnW]
  refine pStr_num (small_b (by omega)) ?_
  simp only [sSeq, sNext, sRet, sRetN, sRetV, sSet, sIf, sDrop, sTgt, sPar, sNever, wTmps, setAll, sFor, gNm, IL.gTup, gEach, tTrue, tTru, tOf, tNotW, tAndW, tOrW, oAnd, oOr, oNotT, oIf, oChain, oTup, oLst, wArgs, oPrim, withOps, evOps, Opd.ev, oC, oVar, oSl, partEv, oMeth, isStrPV, oComp, oComp2, iSeq, iRange1, iRange2, rgW, oDict0, lift1, lift2, Opr.rd, rdAll, e_rl, Option.map_some, Option.map_none, e_pv, e_po, e_tb, e_ti, e_tn, e_tl, e_tt, e_add, e_addS, e_addL, e_addT, e_sub, e_mul, e_mod, e_fdiv, e_pow, e_neg, e_lt, e_le, e_gt, e_ge, e_eqI, e_lenT, e_lenL, e_lenS, e_lenR, e_tupL, e_tupT, e_intI, e_isiI, e_isiIB, e_isiT, e_isiS, e_isN, e_isI, e_isS, e_isT, e_sqT, e_sqL, e_sqS, wipeE, IL.envOf, List.map_cons, List.map_nil, List.length_cons, List.length_nil, Nat.zero_add, Nat.reduceSub, Nat.reduceAdd, List.replicate, List.cons_append, List.nil_append, List.set_cons_zero, List.set_cons_succ, List.getElem?_cons_zero, List.getElem?_cons_succ, List.getElem?_nil, restE, Option.join, Option.bind_some, Option.bind_none, id_eq, if_true, if_false, Bool.false_eq_true, Bool.not_true, Bool.not_false, Bool.bne_false, Bool.bne_true, reduceIte, Bool.true_bne, Bool.false_bne, and_true, true_and, fnW]
  refine ⟨size_le (by rw [lenPs]; omega), size_le (by rw [Str.length_append, lenPs, lenN1]; omega), ?_⟩
  refine pIx_tup1 ?_
  simp only [sSeq, sNext, sRet, sRetN, sRetV, sSet, sIf, sDrop, sTgt, sPar, sNever, wTmps, setAll, sFor, gNm, IL.gTup, gEach, tTrue, tTru, tOf, tNotW, tAndW, tOrW, oAnd, oOr, oNotT, oIf, oChain, oTup, oLst, wArgs, oPrim, withOps, evOps, Opd.ev, oC, oVar, oSl, partEv, oMeth, isStrPV, oComp, oComp2, iSeq, iRange1, iRange2, rgW, oDict0, lift1, lift2, Opr.rd, rdAll, e_rl, Option.map_some, Option.map_none, e_pv, e_po, e_tb, e_ti, e_tn, e_tl, e_tt, e_add, e_addS, e_addL, e_addT, e_sub, e_mul, e_mod, e_fdiv, e_pow, e_neg, e_lt, e_le, e_gt, e_ge, e_eqI, e_lenT, e_lenL, e_lenS, e_lenR, e_tupL, e_tupT, e_intI, e_isiI, e_isiIB, e_isiT, e_isiS, e_isN, e_isI, e_isS, e_isT, e_sqT, e_sqL, e_sqS, wipeE, IL.envOf, List.map_cons, List.map_nil, List.length_cons, List.length_nil, Nat.zero_add, Nat.reduceSub, Nat.reduceAdd, List.replicate, List.cons_append, List.nil_append, List.set_cons_zero, List.set_cons_succ, List.getElem?_cons_zero, List.getElem?_cons_succ, List.getElem?_nil, restE, Option.join, Option.bind_some, Option.bind_none, id_eq, if_true, if_false, Bool.false_eq_true, Bool.not_true, Bool.not_false, Bool.bne_false, Bool.bne_true, reduceIte, Bool.true_bne, Bool.false_bne, and_true, true_and, fnW]
  refine ⟨size_le (by omega), rfl, ?_⟩
  refine wComp_map rowPV (fun x hx K acc hk => ?_) ?_
  · obtain ⟨p, hp, rfl⟩ := List.mem_map.mp hx
    have r := g.rng p hp
    have k1 := small_b (n := p.1) (by omega)
    have k2 := small_b (n := p.2) (by omega)
    have l1 := numlen k1
    have l2 := numlen k2
    simp only [sSeq, sNext, sRet, sRetN, sRetV, sSet, sIf, sDrop, sTgt, sPar, sNever, wTmps, setAll, sFor, gNm, IL.gTup, gEach, tTrue, tTru, tOf, tNotW, tAndW, tOrW, oAnd, oOr, oNotT, oIf, oChain, oTup, oLst, wArgs, oPrim, withOps, evOps, Opd.ev, oC, oVar, oSl, partEv, oMeth, isStrPV, oComp, oComp2, iSeq, iRange1, iRange2, rgW, oDict0, lift1, lift2, Opr.rd, rdAll, e_rl, Option.map_some, Option.map_none, e_pv, e_po, e_tb, e_ti, e_tn, e_tl, e_tt, e_add, e_addS, e_addL, e_addT, e_sub, e_mul, e_mod, e_fdiv, e_pow, e_neg, e_lt, e_le, e_gt, e_ge, e_eqI, e_lenT, e_lenL, e_lenS, e_lenR, e_tupL, e_tupT, e_intI, e_isiI, e_isiIB, e_isiT, e_isiS, e_isN, e_isI, e_isS, e_isT, e_sqT, e_sqL, e_sqS, wipeE, IL.envOf, List.map_cons, List.map_nil, List.length_cons, List.length_nil, Nat.zero_add, Nat.reduceSub, Nat.reduceAdd, List.replicate, List.cons_append, List.nil_append, List.set_cons_zero, List.set_cons_succ, List.getElem?_cons_zero, List.getElem?_cons_succ, List.getElem?_nil, restE, Option.join, Option.bind_some, Option.bind_none, id_eq, if_true, if_false, Bool.false_eq_true, Bool.not_true, Bool.not_false, Bool.bne_false, Bool.bne_true, reduceIte, Bool.true_bne, Bool.false_bne, and_true, true_and, fnW, pPV]
    refine pStr_num k1 ?_
    simp only [sSeq, sNext, sRet, sRetN, sRetV, sSet, sIf, sDrop, sTgt, sPar, sNever, wTmps, setAll, sFor, gNm, IL.gTup, gEach, tTrue, tTru, tOf, tNotW, tAndW, tOrW, oAnd, oOr, oNotT, oIf, oChain, oTup, oLst, wArgs, oPrim, withOps, evOps, Opd.ev, oC, oVar, oSl, partEv, oMeth, isStrPV, oComp, oComp2, iSeq, iRange1, iRange2, rgW, oDict0, lift1, lift2, Opr.rd, rdAll, e_rl, Option.map_some, Option.map_none, e_pv, e_po, e_tb, e_ti, e_tn, e_tl, e_tt, e_add, e_addS, e_addL, e_addT, e_sub, e_mul, e_mod, e_fdiv, e_pow, e_neg, e_lt, e_le, e_gt, e_ge, e_eqI, e_lenT, e_lenL, e_lenS, e_lenR, e_tupL, e_tupT, e_intI, e_isiI, e_isiIB, e_isiT, e_isiS, e_isN, e_isI, e_isS, e_isT, e_sqT, e_sqL, e_sqS, wipeE, IL.envOf, List.map_cons, List.map_nil, List.length_cons, List.length_nil, Nat.zero_add, Nat.reduceSub, Nat.reduceAdd, List.replicate, List.cons_append, List.nil_append, List.set_cons_zero, List.set_cons_succ, List.getElem?_cons_zero, List.getElem?_cons_succ, List.getElem?_nil, restE, Option.join, Option.bind_some, Option.bind_none, id_eq, if_true, if_false, Bool.false_eq_true, Bool.not_true, Bool.not_false, Bool.bne_false, Bool.bne_true, reduceIte, Bool.true_bne, Bool.false_bne, and_true, true_and, fnW]
    refine ⟨size_le (by rw [lenBt]; omega), ?_⟩
    refine pStr_num k2 ?_
    simp only [sSeq, sNext, sRet, sRetN, sRetV, sSet, sIf, sDrop, sTgt, sPar, sNever, wTmps, setAll, sFor, gNm, IL.gTup, gEach, tTrue, tTru, tOf, tNotW, tAndW, tOrW, oAnd, oOr, oNotT, oIf, oChain, oTup, oLst, wArgs, oPrim, withOps, evOps, Opd.ev, oC, oVar, oSl, partEv, oMeth, isStrPV, oComp, oComp2, iSeq, iRange1, iRange2, rgW, oDict0, lift1, lift2, Opr.rd, rdAll, e_rl, Option.map_some, Option.map_none, e_pv, e_po, e_tb, e_ti, e_tn, e_tl, e_tt, e_add, e_addS, e_addL, e_addT, e_sub, e_mul, e_mod, e_fdiv, e_pow, e_neg, e_lt, e_le, e_gt, e_ge, e_eqI, e_lenT, e_lenL, e_lenS, e_lenR, e_tupL, e_tupT, e_intI, e_isiI, e_isiIB, e_isiT, e_isiS, e_isN, e_isI, e_isS, e_isT, e_sqT, e_sqL, e_sqS, wipeE, IL.envOf, List.map_cons, List.map_nil, List.length_cons, List.length_nil, Nat.zero_add, Nat.reduceSub, Nat.reduceAdd, List.replicate, List.cons_append, List.nil_append, List.set_cons_zero, List.set_cons_succ, List.getElem?_cons_zero, List.getElem?_cons_succ, List.getElem?_nil, restE, Option.join, Option.bind_some, Option.bind_none, id_eq, if_true, if_false, Bool.false_eq_true, Bool.not_true, Bool.not_false, Bool.bne_false, Bool.bne_true, reduceIte, Bool.true_bne, Bool.false_bne, and_true, true_and, fnW]
    refine ⟨size_le (by rw [Str.length_append, lenBt]; omega), size_le (by rw [Str.length_append, Str.length_append, lenBt, lenN1]; omega), ?_⟩
    exact hk
  · have e : (ws.map pPV).map rowPV = (ws.map rowS).map PV.str := by
      rw [List.map_map, List.map_map]
      rfl
    rw [e]
    simp only [sSeq, sNext, sRet, sRetN, sRetV, sSet, sIf, sDrop, sTgt, sPar, sNever, wTmps, setAll, sFor, gNm, IL.gTup, gEach, tTrue, tTru, tOf, tNotW, tAndW, tOrW, oAnd, oOr, oNotT, oIf, oChain, oTup, oLst, wArgs, oPrim, withOps, evOps, Opd.ev, oC, oVar, oSl, partEv, oMeth, isStrPV, oComp, oComp2, iSeq, iRange1, iRange2, rgW, oDict0, lift1, lift2, Opr.rd, rdAll, e_rl, Option.map_some, Option.map_none, e_pv, e_po, e_tb, e_ti, e_tn, e_tl, e_tt, e_add, e_addS, e_addL, e_addT, e_sub, e_mul, e_mod, e_fdiv, e_pow, e_neg, e_lt, e_le, e_gt, e_ge, e_eqI, e_lenT, e_lenL, e_lenS, e_lenR, e_tupL, e_tupT, e_intI, e_isiI, e_isiIB, e_isiT, e_isiS, e_isN, e_isI, e_isS, e_isT, e_sqT, e_sqL, e_sqS, wipeE, IL.envOf, List.map_cons, List.map_nil, List.length_cons, List.length_nil, Nat.zero_add, Nat.reduceSub, Nat.reduceAdd, List.replicate, List.cons_append, List.nil_append, List.set_cons_zero, List.set_cons_succ, List.getElem?_cons_zero, List.getElem?_cons_succ, List.getElem?_nil, restE, Option.join, Option.bind_some, Option.bind_none, id_eq, if_true, if_false, Bool.false_eq_true, Bool.not_true, Bool.not_false, Bool.bne_false, Bool.bne_true, reduceIte, Bool.true_bne, Bool.false_bne, and_true, true_and, fnW]
    have key : ∀ z, z = gText m ws → Q (.v (.str z)) := fun z e => e ▸ h
    refine pJoin_lst (k := 300) (fun z hz => ?_) (by simp; omega) (by omega) lenE ?_
    · obtain ⟨p, hp, rfl⟩ := List.mem_map.mp hz
      have r := g.rng p hp
      have l1 := numlen (small_b (n := p.1) (by omega))
      have l2 := numlen (small_b (n := p.2) (by omega))
      unfold rowS
      rw [Str.length_append, Str.length_append, Str.length_append, lenBt, lenN1]
      omega
    · simp only [sSeq, sNext, sRet, sRetN, sRetV, sSet, sIf, sDrop, sTgt, sPar, sNever, wTmps, setAll, sFor, gNm, IL.gTup, gEach, tTrue, tTru, tOf, tNotW, tAndW, tOrW, oAnd, oOr, oNotT, oIf, oChain, oTup, oLst, wArgs, oPrim, withOps, evOps, Opd.ev, oC, oVar, oSl, partEv, oMeth, isStrPV, oComp, oComp2, iSeq, iRange1, iRange2, rgW, oDict0, lift1, lift2, Opr.rd, rdAll, e_rl, Option.map_some, Option.map_none, e_pv, e_po, e_tb, e_ti, e_tn, e_tl, e_tt, e_add, e_addS, e_addL, e_addT, e_sub, e_mul, e_mod, e_fdiv, e_pow, e_neg, e_lt, e_le, e_gt, e_ge, e_eqI, e_lenT, e_lenL, e_lenS, e_lenR, e_tupL, e_tupT, e_intI, e_isiI, e_isiIB, e_isiT, e_isiS, e_isN, e_isI, e_isS, e_isT, e_sqT, e_sqL, e_sqS, wipeE, IL.envOf, List.map_cons, List.map_nil, List.length_cons, List.length_nil, Nat.zero_add, Nat.reduceSub, Nat.reduceAdd, List.replicate, List.cons_append, List.nil_append, List.set_cons_zero, List.set_cons_succ, List.getElem?_cons_zero, List.getElem?_cons_succ, List.getElem?_nil, restE, Option.join, Option.bind_some, Option.bind_none, id_eq, if_true, if_false, Bool.false_eq_true, Bool.not_true, Bool.not_false, Bool.bne_false, Bool.bne_true, reduceIte, Bool.true_bne, Bool.false_bne, and_true, true_and, fnW]
      have eg := gText_law m ws
      refine ⟨size_le ?_, key _ eg⟩
      have := congrArg Str.length eg
      rw [Str.length_append] at this
      omega
theorem i_law_list_text {ns : List Nat} (hb : ∀ n ∈ ns, n < 10 ^ 100) (hl : ns.length ≤ 100) (h : Q (.v (.str (lText ns)))) : F__law_list_text [.tup (ns.map iPV)] Q := by
  have hL : (ns.map iPV).length ≤ 100 := by simpa using hl
  unfold F__law_list_text b__law_list_text
  simp only [sSeq, sNext, sRet, sRetN, sRetV, sSet, sIf, sDrop, sTgt, sPar, sNever, wTmps, setAll, sFor, gNm, IL.gTup, gEach, tTrue, tTru, tOf, tNotW, tAndW, tOrW, oAnd, oOr, oNotT, oIf, oChain, oTup, oLst, wArgs, oPrim, withOps, evOps, Opd.ev, oC, oVar, oSl, partEv, oMeth, isStrPV, oComp, oComp2, iSeq, iRange1, iRange2, rgW, oDict0, lift1, lift2, Opr.rd, rdAll, e_rl, Option.map_some, Option.map_none, e_pv, e_po, e_tb, e_ti, e_tn, e_tl, e_tt, e_add, e_addS, e_addL, e_addT, e_sub, e_mul, e_mod, e_fdiv, e_pow, e_neg, e_lt, e_le, e_gt, e_ge, e_eqI, e_lenT, e_lenL, e_lenS, e_lenR, e_tupL, e_tupT, e_intI, e_isiI, e_isiIB, e_isiT, e_isiS, e_isN, e_isI, e_isS, e_isT, e_sqT, e_sqL, e_sqS, wipeE, IL.envOf, List.map_cons, List.map_nil, List.length_cons, List.length_nil, Nat.zero_add, Nat.reduceSub, Nat.reduceAdd, List.replicate, List.cons_append, List.nil_append, List.set_cons_zero, List.set_cons_succ, List.getElem?_cons_zero, List.getElem?_cons_succ, List.getElem?_nil, restE, Option.join, Option.bind_some, Option.bind_none, id_eq, if_true, if_false, Bool.false_eq_true, Bool.not_true, Bool.not_false, Bool.bne_false, Bool.bne_true, reduceIte, Bool.true_bne, Bool.false_bne, and_true, true_and, fnW]
  refine ⟨size_le (by omega), rfl, ?_⟩
  have e : (ns.map num).map PV.str = (ns.map iPV).map shPV := by
    rw [List.map_map, List.map_map]
    apply List.map_congr_left
    intro n hn
    rfl
  refine wComp_map shPV (fun x hx K acc hk => ?_) ?_
  · obtain ⟨n, hn, rfl⟩ := List.mem_map.mp hx
    simp only [sSeq, sNext, sRet, sRetN, sRetV, sSet, sIf, sDrop, sTgt, sPar, sNever, wTmps, setAll, sFor, gNm, IL.gTup, gEach, tTrue, tTru, tOf, tNotW, tAndW, tOrW, oAnd, oOr, oNotT, oIf, oChain, oTup, oLst, wArgs, oPrim, withOps, evOps, Opd.ev, oC, oVar, oSl, partEv, oMeth, isStrPV, oComp, oComp2, iSeq, iRange1, iRange2, rgW, oDict0, lift1, lift2, Opr.rd, rdAll, e_rl, Option.map_some, Option.map_none, e_pv, e_po, e_tb, e_ti, e_tn, e_tl, e_tt, e_add, e_addS, e_addL, e_addT, e_sub, e_mul, e_mod, e_fdiv, e_pow, e_neg, e_lt, e_le, e_gt, e_ge, e_eqI, e_lenT, e_lenL, e_lenS, e_lenR, e_tupL, e_tupT, e_intI, e_isiI, e_isiIB, e_isiT, e_isiS, e_isN, e_isI, e_isS, e_isT, e_sqT, e_sqL, e_sqS, wipeE, IL.envOf, List.map_cons, List.map_nil, List.length_cons, List.length_nil, Nat.zero_add, Nat.reduceSub, Nat.reduceAdd, List.replicate, List.cons_append, List.nil_append, List.set_cons_zero, List.set_cons_succ, List.getElem?_cons_zero, List.getElem?_cons_succ, List.getElem?_nil, restE, Option.join, Option.bind_some, Option.bind_none, id_eq, if_true, if_false, Bool.false_eq_true, Bool.not_true, Bool.not_false, Bool.bne_false, Bool.bne_true, reduceIte, Bool.true_bne, Bool.false_bne, and_true, true_and, fnW, iPV]
    exact pStr_num (hb n hn) hk
  · simp only [sSeq, sNext, sRet, sRetN, sRetV, sSet, sIf, sDrop, sTgt, sPar, sNever, wTmps, setAll, sFor, gNm, IL.gTup, gEach, tTrue, tTru, tOf, tNotW, tAndW, tOrW, oAnd, oOr, oNotT, oIf, oChain, oTup, oLst, wArgs, oPrim, withOps, evOps, Opd.ev, oC, oVar, oSl, partEv, oMeth, isStrPV, oComp, oComp2, iSeq, iRange1, iRange2, rgW, oDict0, lift1, lift2, Opr.rd, rdAll, e_rl, Option.map_some, Option.map_none, e_pv, e_po, e_tb, e_ti, e_tn, e_tl, e_tt, e_add, e_addS, e_addL, e_addT, e_sub, e_mul, e_mod, e_fdiv, e_pow, e_neg, e_lt, e_le, e_gt, e_ge, e_eqI, e_lenT, e_lenL, e_lenS, e_lenR, e_tupL, e_tupT, e_intI, e_isiI, e_isiIB, e_isiT, e_isiS, e_isN, e_isI, e_isS, e_isT, e_sqT, e_sqL, e_sqS, wipeE, IL.envOf, List.map_cons, List.map_nil, List.length_cons, List.length_nil, Nat.zero_add, Nat.reduceSub, Nat.reduceAdd, List.replicate, List.cons_append, List.nil_append, List.set_cons_zero, List.set_cons_succ, List.getElem?_cons_zero, List.getElem?_cons_succ, List.getElem?_nil, restE, Option.join, Option.bind_some, Option.bind_none, id_eq, if_true, if_false, Bool.false_eq_true, Bool.not_true, Bool.not_false, Bool.bne_false, Bool.bne_true, reduceIte, Bool.true_bne, Bool.false_bne, and_true, true_and, fnW]
    rw [← e]
    refine pJoin_lst (k := 100) (fun z hz => ?_) (by simpa using by omega) (by omega) lenB h
    obtain ⟨n, hn, rfl⟩ := List.mem_map.mp hz
    exact numlen (hb n hn)
theorem strOk_l {ns : List Nat} : PyData.strOk (lText ns) = true := strOk_tl fun c hc => by
  unfold lText at hc
  rw [tlJ, tlB] at hc
  have key : ∀ ps : List (List Nat), (∀ p ∈ ps, ∀ c ∈ p, c < 200) → ∀ c ∈ joinL [32] ps, c < 200 := by
    intro ps
    induction ps with
    | nil => intro _ c hc; simp [joinL] at hc
    | cons p r ih =>
      intro h c hc
      cases r with
      | nil => exact h p (by simp) c hc
      | cons q r =>
        have hc : c ∈ p ++ ([32] ++ joinL [32] (q :: r)) := hc
        rcases List.mem_append.mp hc with z | z
        · exact h p (by simp) c z
        · rcases List.mem_append.mp z with z | z
          · rw [List.mem_singleton.mp z]; decide
          · exact ih (fun x hx => h x (List.mem_cons_of_mem _ hx)) c z
  have := key ((ns.map num).map tl) (fun x hx => by
    obtain ⟨y, hy, rfl⟩ := List.mem_map.mp hx
    obtain ⟨n, hn, rfl⟩ := List.mem_map.mp hy
    rw [tl_num']
    intro c hc
    have := numL_digits n c hc
    omega) c hc
  omega
theorem ds_nums {ns : List Nat} (hl : ns.length ≤ 100) : DS 1 (.tup (ns.map iPV)) := .tup (by simp; omega) fun x hx => by
  obtain ⟨n, _, rfl⟩ := List.mem_map.mp hx
  exact .int 0 _
theorem ds_g {m : Nat} {ws : List (Nat × Nat)} (hl : ws.length ≤ 64) : DS 3 (gPV m ws) := .tup (by simp) fun x hx => by
  simp only [List.mem_cons, List.not_mem_nil, or_false] at hx
  rcases hx with rfl | rfl
  · exact .int 2 _
  · exact .tup (by simp; omega) fun y hy => by
      obtain ⟨p, _, rfl⟩ := List.mem_map.mp hy
      exact .tup (by simp) fun z hz => by
        simp only [List.mem_cons, List.not_mem_nil, or_false] at hz
        rcases hz with rfl | rfl <;> exact .int 0 _
theorem ds_3 {x y z : PV} {n : Nat} (hx : DS n x) (hy : DS n y) (hz : DS n z) : DS (n + 1) (.lst [x, y, z]) := .lst (by simp) fun u hu => by
  simp only [List.mem_cons, List.not_mem_nil, or_false] at hu
  rcases hu with rfl | rfl | rfl
  · exact hx
  · exact hy
  · exact hz
theorem cnt_le (ws : List (Nat × Nat)) (k : Nat) : cnt ws k ≤ ws.length := List.countP_le_length
theorem pts_small {m : Nat} {ws : List (Nat × Nat)} (g : Good m ws) : ∀ n ∈ pointsL m ws, n ≤ 64 := fun n hn => by
  obtain ⟨k, _, rfl⟩ := List.mem_map.mp hn
  exact Nat.le_trans (cnt_le ws k) g.len
theorem sSeq_cut {a b : SW} {P : EndsW} {e : IL.Env} (I : IL.Env → Prop) (h : ∀ K : IL.Env → Prop, (∀ e', I e' → K e') → a { P with nx := K } e) (h2 : ∀ e', I e' → b P e') : sSeq a b P e := h _ h2
theorem i_is_told {m : Nat} {ws : List (Nat × Nat)} (g : Good m ws) (h : Q (.v (.bl true))) : F__law_is_told [.well, gPV m ws] Q := by
  have m1 := g.m1
  have m8 := g.m8
  have dg : DS 3 (gPV m ws) := ds_g g.len
  have dt : DS 3 (.str (gText m ws)) := .str 3 strOk_g
  unfold F__law_is_told b__law_is_told fnW
  refine sSeq_cut (fun e => e = [some (.v .well), some (.v (gPV m ws)), some (.v (.str (gText m ws))), some (.v (.tup ((pointsL m ws).map iPV))), none, none, none, none]) (fun K hK => ?_) (fun e he => ?_)
  · simp only [sSeq, sNext, sRet, sRetN, sRetV, sSet, sIf, sDrop, sTgt, sPar, sNever, wTmps, setAll, sFor, gNm, IL.gTup, gEach, tTrue, tTru, tOf, tNotW, tAndW, tOrW, oAnd, oOr, oNotT, oIf, oChain, oTup, oLst, wArgs, oPrim, withOps, evOps, Opd.ev, oC, oVar, oSl, partEv, oMeth, isStrPV, oComp, oComp2, iSeq, iRange1, iRange2, rgW, oDict0, lift1, lift2, Opr.rd, rdAll, e_rl, Option.map_some, Option.map_none, e_pv, e_po, e_tb, e_ti, e_tn, e_tl, e_tt, e_add, e_addS, e_addL, e_addT, e_sub, e_mul, e_mod, e_fdiv, e_pow, e_neg, e_lt, e_le, e_gt, e_ge, e_eqI, e_lenT, e_lenL, e_lenS, e_lenR, e_tupL, e_tupT, e_intI, e_isiI, e_isiIB, e_isiT, e_isiS, e_isN, e_isI, e_isS, e_isT, e_sqT, e_sqL, e_sqS, wipeE, IL.envOf, List.map_cons, List.map_nil, List.length_cons, List.length_nil, Nat.zero_add, Nat.reduceSub, Nat.reduceAdd, List.replicate, List.cons_append, List.nil_append, List.set_cons_zero, List.set_cons_succ, List.getElem?_cons_zero, List.getElem?_cons_succ, List.getElem?_nil, restE, Option.join, Option.bind_some, Option.bind_none, id_eq, if_true, if_false, Bool.false_eq_true, Bool.not_true, Bool.not_false, Bool.bne_false, Bool.bne_true, reduceIte, Bool.true_bne, Bool.false_bne, and_true, true_and, fnW, oCall]
    refine i_law_games_text g ?_
    try simp only [sSeq, sNext, sRet, sRetN, sRetV, sSet, sIf, sDrop, sTgt, sPar, sNever, wTmps, setAll, sFor, gNm, IL.gTup, gEach, tTrue, tTru, tOf, tNotW, tAndW, tOrW, oAnd, oOr, oNotT, oIf, oChain, oTup, oLst, wArgs, oPrim, withOps, evOps, Opd.ev, oC, oVar, oSl, partEv, oMeth, isStrPV, oComp, oComp2, iSeq, iRange1, iRange2, rgW, oDict0, lift1, lift2, Opr.rd, rdAll, e_rl, Option.map_some, Option.map_none, e_pv, e_po, e_tb, e_ti, e_tn, e_tl, e_tt, e_add, e_addS, e_addL, e_addT, e_sub, e_mul, e_mod, e_fdiv, e_pow, e_neg, e_lt, e_le, e_gt, e_ge, e_eqI, e_lenT, e_lenL, e_lenS, e_lenR, e_tupL, e_tupT, e_intI, e_isiI, e_isiIB, e_isiT, e_isiS, e_isN, e_isI, e_isS, e_isT, e_sqT, e_sqL, e_sqS, wipeE, IL.envOf, List.map_cons, List.map_nil, List.length_cons, List.length_nil, Nat.zero_add, Nat.reduceSub, Nat.reduceAdd, List.replicate, List.cons_append, List.nil_append, List.set_cons_zero, List.set_cons_succ, List.getElem?_cons_zero, List.getElem?_cons_succ, List.getElem?_nil, restE, Option.join, Option.bind_some, Option.bind_none, id_eq, if_true, if_false, Bool.false_eq_true, Bool.not_true, Bool.not_false, Bool.bne_false, Bool.bne_true, reduceIte, Bool.true_bne, Bool.false_bne, and_true, true_and, fnW]
    refine i_law_points g ?_
    exact hK _ rfl
  subst he
  refine sSeq_cut (fun e => e = [some (.v .well), some (.v (gPV m ws)), some (.v (.str (gText m ws))), some (.v (.tup ((pointsL m ws).map iPV))), some (.v (.str (gText m ws))), none, none, none]) (fun K hK => ?_) (fun e he => ?_)
  · simp only [sSeq, sNext, sRet, sRetN, sRetV, sSet, sIf, sDrop, sTgt, sPar, sNever, wTmps, setAll, sFor, gNm, IL.gTup, gEach, tTrue, tTru, tOf, tNotW, tAndW, tOrW, oAnd, oOr, oNotT, oIf, oChain, oTup, oLst, wArgs, oPrim, withOps, evOps, Opd.ev, oC, oVar, oSl, partEv, oMeth, isStrPV, oComp, oComp2, iSeq, iRange1, iRange2, rgW, oDict0, lift1, lift2, Opr.rd, rdAll, e_rl, Option.map_some, Option.map_none, e_pv, e_po, e_tb, e_ti, e_tn, e_tl, e_tt, e_add, e_addS, e_addL, e_addT, e_sub, e_mul, e_mod, e_fdiv, e_pow, e_neg, e_lt, e_le, e_gt, e_ge, e_eqI, e_lenT, e_lenL, e_lenS, e_lenR, e_tupL, e_tupT, e_intI, e_isiI, e_isiIB, e_isiT, e_isiS, e_isN, e_isI, e_isS, e_isT, e_sqT, e_sqL, e_sqS, wipeE, IL.envOf, List.map_cons, List.map_nil, List.length_cons, List.length_nil, Nat.zero_add, Nat.reduceSub, Nat.reduceAdd, List.replicate, List.cons_append, List.nil_append, List.set_cons_zero, List.set_cons_succ, List.getElem?_cons_zero, List.getElem?_cons_succ, List.getElem?_nil, restE, Option.join, Option.bind_some, Option.bind_none, id_eq, if_true, if_false, Bool.false_eq_true, Bool.not_true, Bool.not_false, Bool.bne_false, Bool.bne_true, reduceIte, Bool.true_bne, Bool.false_bne, and_true, true_and, fnW, oCall, oCallK]
    refine i_take (by omega) (by omega) fun r _ _ => ?_
    simp only [sSeq, sNext, sRet, sRetN, sRetV, sSet, sIf, sDrop, sTgt, sPar, sNever, wTmps, setAll, sFor, gNm, IL.gTup, gEach, tTrue, tTru, tOf, tNotW, tAndW, tOrW, oAnd, oOr, oNotT, oIf, oChain, oTup, oLst, wArgs, oPrim, withOps, evOps, Opd.ev, oC, oVar, oSl, partEv, oMeth, isStrPV, oComp, oComp2, iSeq, iRange1, iRange2, rgW, oDict0, lift1, lift2, Opr.rd, rdAll, e_rl, Option.map_some, Option.map_none, e_pv, e_po, e_tb, e_ti, e_tn, e_tl, e_tt, e_add, e_addS, e_addL, e_addT, e_sub, e_mul, e_mod, e_fdiv, e_pow, e_neg, e_lt, e_le, e_gt, e_ge, e_eqI, e_lenT, e_lenL, e_lenS, e_lenR, e_tupL, e_tupT, e_intI, e_isiI, e_isiIB, e_isiT, e_isiS, e_isN, e_isI, e_isS, e_isT, e_sqT, e_sqL, e_sqS, wipeE, IL.envOf, List.map_cons, List.map_nil, List.length_cons, List.length_nil, Nat.zero_add, Nat.reduceSub, Nat.reduceAdd, List.replicate, List.cons_append, List.nil_append, List.set_cons_zero, List.set_cons_succ, List.getElem?_cons_zero, List.getElem?_cons_succ, List.getElem?_nil, restE, Option.join, Option.bind_some, Option.bind_none, id_eq, if_true, if_false, Bool.false_eq_true, Bool.not_true, Bool.not_false, Bool.bne_false, Bool.bne_true, reduceIte, Bool.true_bne, Bool.false_bne, and_true, true_and, fnW]
    split
    · exact i_games_text g (hK _ rfl)
    · refine ⟨rfl, ?_⟩
      exact i_games_text g (hK _ rfl)
  subst he
  refine sSeq_cut (fun e => e = [some (.v .well), some (.v (gPV m ws)), some (.v (.str (gText m ws))), some (.v (.tup ((pointsL m ws).map iPV))), some (.v (.str (gText m ws))), some (.v (gPV m ws)), none, none]) (fun K hK => ?_) (fun e he => ?_)
  · simp only [sSeq, sNext, sRet, sRetN, sRetV, sSet, sIf, sDrop, sTgt, sPar, sNever, wTmps, setAll, sFor, gNm, IL.gTup, gEach, tTrue, tTru, tOf, tNotW, tAndW, tOrW, oAnd, oOr, oNotT, oIf, oChain, oTup, oLst, wArgs, oPrim, withOps, evOps, Opd.ev, oC, oVar, oSl, partEv, oMeth, isStrPV, oComp, oComp2, iSeq, iRange1, iRange2, rgW, oDict0, lift1, lift2, Opr.rd, rdAll, e_rl, Option.map_some, Option.map_none, e_pv, e_po, e_tb, e_ti, e_tn, e_tl, e_tt, e_add, e_addS, e_addL, e_addT, e_sub, e_mul, e_mod, e_fdiv, e_pow, e_neg, e_lt, e_le, e_gt, e_ge, e_eqI, e_lenT, e_lenL, e_lenS, e_lenR, e_tupL, e_tupT, e_intI, e_isiI, e_isiIB, e_isiT, e_isiS, e_isN, e_isI, e_isS, e_isT, e_sqT, e_sqL, e_sqS, wipeE, IL.envOf, List.map_cons, List.map_nil, List.length_cons, List.length_nil, Nat.zero_add, Nat.reduceSub, Nat.reduceAdd, List.replicate, List.cons_append, List.nil_append, List.set_cons_zero, List.set_cons_succ, List.getElem?_cons_zero, List.getElem?_cons_succ, List.getElem?_nil, restE, Option.join, Option.bind_some, Option.bind_none, id_eq, if_true, if_false, Bool.false_eq_true, Bool.not_true, Bool.not_false, Bool.bne_false, Bool.bne_true, reduceIte, Bool.true_bne, Bool.false_bne, and_true, true_and, fnW, oCall, oCallK]
    refine i_take (by omega) (by omega) fun r _ _ => ?_
    simp only [sSeq, sNext, sRet, sRetN, sRetV, sSet, sIf, sDrop, sTgt, sPar, sNever, wTmps, setAll, sFor, gNm, IL.gTup, gEach, tTrue, tTru, tOf, tNotW, tAndW, tOrW, oAnd, oOr, oNotT, oIf, oChain, oTup, oLst, wArgs, oPrim, withOps, evOps, Opd.ev, oC, oVar, oSl, partEv, oMeth, isStrPV, oComp, oComp2, iSeq, iRange1, iRange2, rgW, oDict0, lift1, lift2, Opr.rd, rdAll, e_rl, Option.map_some, Option.map_none, e_pv, e_po, e_tb, e_ti, e_tn, e_tl, e_tt, e_add, e_addS, e_addL, e_addT, e_sub, e_mul, e_mod, e_fdiv, e_pow, e_neg, e_lt, e_le, e_gt, e_ge, e_eqI, e_lenT, e_lenL, e_lenS, e_lenR, e_tupL, e_tupT, e_intI, e_isiI, e_isiIB, e_isiT, e_isiS, e_isN, e_isI, e_isS, e_isT, e_sqT, e_sqL, e_sqS, wipeE, IL.envOf, List.map_cons, List.map_nil, List.length_cons, List.length_nil, Nat.zero_add, Nat.reduceSub, Nat.reduceAdd, List.replicate, List.cons_append, List.nil_append, List.set_cons_zero, List.set_cons_succ, List.getElem?_cons_zero, List.getElem?_cons_succ, List.getElem?_nil, restE, Option.join, Option.bind_some, Option.bind_none, id_eq, if_true, if_false, Bool.false_eq_true, Bool.not_true, Bool.not_false, Bool.bne_false, Bool.bne_true, reduceIte, Bool.true_bne, Bool.false_bne, and_true, true_and, fnW]
    split
    · exact i_read_games g (hK _ rfl)
    · refine ⟨rfl, ?_⟩
      exact i_read_games g (hK _ rfl)
  subst he
  refine sSeq_cut (fun e => e = [some (.v .well), some (.v (gPV m ws)), some (.v (.str (gText m ws))), some (.v (.tup ((pointsL m ws).map iPV))), some (.v (.str (gText m ws))), some (.v (gPV m ws)), none, none]) (fun K hK => ?_) (fun e he => ?_)
  · simp only [sSeq, sNext, sRet, sRetN, sRetV, sSet, sIf, sDrop, sTgt, sPar, sNever, wTmps, setAll, sFor, gNm, IL.gTup, gEach, tTrue, tTru, tOf, tNotW, tAndW, tOrW, oAnd, oOr, oNotT, oIf, oChain, oTup, oLst, wArgs, oPrim, withOps, evOps, Opd.ev, oC, oVar, oSl, partEv, oMeth, isStrPV, oComp, oComp2, iSeq, iRange1, iRange2, rgW, oDict0, lift1, lift2, Opr.rd, rdAll, e_rl, Option.map_some, Option.map_none, e_pv, e_po, e_tb, e_ti, e_tn, e_tl, e_tt, e_add, e_addS, e_addL, e_addT, e_sub, e_mul, e_mod, e_fdiv, e_pow, e_neg, e_lt, e_le, e_gt, e_ge, e_eqI, e_lenT, e_lenL, e_lenS, e_lenR, e_tupL, e_tupT, e_intI, e_isiI, e_isiIB, e_isiT, e_isiS, e_isN, e_isI, e_isS, e_isT, e_sqT, e_sqL, e_sqS, wipeE, IL.envOf, List.map_cons, List.map_nil, List.length_cons, List.length_nil, Nat.zero_add, Nat.reduceSub, Nat.reduceAdd, List.replicate, List.cons_append, List.nil_append, List.set_cons_zero, List.set_cons_succ, List.getElem?_cons_zero, List.getElem?_cons_succ, List.getElem?_nil, restE, Option.join, Option.bind_some, Option.bind_none, id_eq, if_true, if_false, Bool.false_eq_true, Bool.not_true, Bool.not_false, Bool.bne_false, Bool.bne_true, reduceIte, Bool.true_bne, Bool.false_bne, and_true, true_and, fnW, oCall]
    refine i_games_text g ?_
    try simp only [sSeq, sNext, sRet, sRetN, sRetV, sSet, sIf, sDrop, sTgt, sPar, sNever, wTmps, setAll, sFor, gNm, IL.gTup, gEach, tTrue, tTru, tOf, tNotW, tAndW, tOrW, oAnd, oOr, oNotT, oIf, oChain, oTup, oLst, wArgs, oPrim, withOps, evOps, Opd.ev, oC, oVar, oSl, partEv, oMeth, isStrPV, oComp, oComp2, iSeq, iRange1, iRange2, rgW, oDict0, lift1, lift2, Opr.rd, rdAll, e_rl, Option.map_some, Option.map_none, e_pv, e_po, e_tb, e_ti, e_tn, e_tl, e_tt, e_add, e_addS, e_addL, e_addT, e_sub, e_mul, e_mod, e_fdiv, e_pow, e_neg, e_lt, e_le, e_gt, e_ge, e_eqI, e_lenT, e_lenL, e_lenS, e_lenR, e_tupL, e_tupT, e_intI, e_isiI, e_isiIB, e_isiT, e_isiS, e_isN, e_isI, e_isS, e_isT, e_sqT, e_sqL, e_sqS, wipeE, IL.envOf, List.map_cons, List.map_nil, List.length_cons, List.length_nil, Nat.zero_add, Nat.reduceSub, Nat.reduceAdd, List.replicate, List.cons_append, List.nil_append, List.set_cons_zero, List.set_cons_succ, List.getElem?_cons_zero, List.getElem?_cons_succ, List.getElem?_nil, restE, Option.join, Option.bind_some, Option.bind_none, id_eq, if_true, if_false, Bool.false_eq_true, Bool.not_true, Bool.not_false, Bool.bne_false, Bool.bne_true, reduceIte, Bool.true_bne, Bool.false_bne, and_true, true_and, fnW]
    refine i_same8 (ds_3 dt dg dt) (by omega) ?_
    simp only [sSeq, sNext, sRet, sRetN, sRetV, sSet, sIf, sDrop, sTgt, sPar, sNever, wTmps, setAll, sFor, gNm, IL.gTup, gEach, tTrue, tTru, tOf, tNotW, tAndW, tOrW, oAnd, oOr, oNotT, oIf, oChain, oTup, oLst, wArgs, oPrim, withOps, evOps, Opd.ev, oC, oVar, oSl, partEv, oMeth, isStrPV, oComp, oComp2, iSeq, iRange1, iRange2, rgW, oDict0, lift1, lift2, Opr.rd, rdAll, e_rl, Option.map_some, Option.map_none, e_pv, e_po, e_tb, e_ti, e_tn, e_tl, e_tt, e_add, e_addS, e_addL, e_addT, e_sub, e_mul, e_mod, e_fdiv, e_pow, e_neg, e_lt, e_le, e_gt, e_ge, e_eqI, e_lenT, e_lenL, e_lenS, e_lenR, e_tupL, e_tupT, e_intI, e_isiI, e_isiIB, e_isiT, e_isiS, e_isN, e_isI, e_isS, e_isT, e_sqT, e_sqL, e_sqS, wipeE, IL.envOf, List.map_cons, List.map_nil, List.length_cons, List.length_nil, Nat.zero_add, Nat.reduceSub, Nat.reduceAdd, List.replicate, List.cons_append, List.nil_append, List.set_cons_zero, List.set_cons_succ, List.getElem?_cons_zero, List.getElem?_cons_succ, List.getElem?_nil, restE, Option.join, Option.bind_some, Option.bind_none, id_eq, if_true, if_false, Bool.false_eq_true, Bool.not_true, Bool.not_false, Bool.bne_false, Bool.bne_true, reduceIte, Bool.true_bne, Bool.false_bne, and_true, true_and, fnW]
    refine i_law_read_games g ?_
    try simp only [sSeq, sNext, sRet, sRetN, sRetV, sSet, sIf, sDrop, sTgt, sPar, sNever, wTmps, setAll, sFor, gNm, IL.gTup, gEach, tTrue, tTru, tOf, tNotW, tAndW, tOrW, oAnd, oOr, oNotT, oIf, oChain, oTup, oLst, wArgs, oPrim, withOps, evOps, Opd.ev, oC, oVar, oSl, partEv, oMeth, isStrPV, oComp, oComp2, iSeq, iRange1, iRange2, rgW, oDict0, lift1, lift2, Opr.rd, rdAll, e_rl, Option.map_some, Option.map_none, e_pv, e_po, e_tb, e_ti, e_tn, e_tl, e_tt, e_add, e_addS, e_addL, e_addT, e_sub, e_mul, e_mod, e_fdiv, e_pow, e_neg, e_lt, e_le, e_gt, e_ge, e_eqI, e_lenT, e_lenL, e_lenS, e_lenR, e_tupL, e_tupT, e_intI, e_isiI, e_isiIB, e_isiT, e_isiS, e_isN, e_isI, e_isS, e_isT, e_sqT, e_sqL, e_sqS, wipeE, IL.envOf, List.map_cons, List.map_nil, List.length_cons, List.length_nil, Nat.zero_add, Nat.reduceSub, Nat.reduceAdd, List.replicate, List.cons_append, List.nil_append, List.set_cons_zero, List.set_cons_succ, List.getElem?_cons_zero, List.getElem?_cons_succ, List.getElem?_nil, restE, Option.join, Option.bind_some, Option.bind_none, id_eq, if_true, if_false, Bool.false_eq_true, Bool.not_true, Bool.not_false, Bool.bne_false, Bool.bne_true, reduceIte, Bool.true_bne, Bool.false_bne, and_true, true_and, fnW]
    refine pEq_self (okD_g m ws) ?_
    simp only [sSeq, sNext, sRet, sRetN, sRetV, sSet, sIf, sDrop, sTgt, sPar, sNever, wTmps, setAll, sFor, gNm, IL.gTup, gEach, tTrue, tTru, tOf, tNotW, tAndW, tOrW, oAnd, oOr, oNotT, oIf, oChain, oTup, oLst, wArgs, oPrim, withOps, evOps, Opd.ev, oC, oVar, oSl, partEv, oMeth, isStrPV, oComp, oComp2, iSeq, iRange1, iRange2, rgW, oDict0, lift1, lift2, Opr.rd, rdAll, e_rl, Option.map_some, Option.map_none, e_pv, e_po, e_tb, e_ti, e_tn, e_tl, e_tt, e_add, e_addS, e_addL, e_addT, e_sub, e_mul, e_mod, e_fdiv, e_pow, e_neg, e_lt, e_le, e_gt, e_ge, e_eqI, e_lenT, e_lenL, e_lenS, e_lenR, e_tupL, e_tupT, e_intI, e_isiI, e_isiIB, e_isiT, e_isiS, e_isN, e_isI, e_isS, e_isT, e_sqT, e_sqL, e_sqS, wipeE, IL.envOf, List.map_cons, List.map_nil, List.length_cons, List.length_nil, Nat.zero_add, Nat.reduceSub, Nat.reduceAdd, List.replicate, List.cons_append, List.nil_append, List.set_cons_zero, List.set_cons_succ, List.getElem?_cons_zero, List.getElem?_cons_succ, List.getElem?_nil, restE, Option.join, Option.bind_some, Option.bind_none, id_eq, if_true, if_false, Bool.false_eq_true, Bool.not_true, Bool.not_false, Bool.bne_false, Bool.bne_true, reduceIte, Bool.true_bne, Bool.false_bne, and_true, true_and, fnW]
    exact hK _ rfl
  subst he
  refine sSeq_cut (fun e => ∃ ns : List Nat, (∀ n ∈ ns, n < 10 ^ 100) ∧ ns.length = m ∧ e = [some (.v .well), some (.v (gPV m ws)), some (.v (.str (gText m ws))), some (.v (.tup (ns.map iPV))), some (.v (.str (gText m ws))), some (.v (gPV m ws)), none, none]) (fun K hK => ?_) (fun e he => ?_)
  · have pl : (pointsL m ws).length = m := by simp [pointsL]
    have pp : ∀ n ∈ pointsL m ws, n < 10 ^ 100 := fun n hn => by
      have := pts_small g n hn
      exact small_b (by omega)
    simp only [sSeq, sNext, sRet, sRetN, sRetV, sSet, sIf, sDrop, sTgt, sPar, sNever, wTmps, setAll, sFor, gNm, IL.gTup, gEach, tTrue, tTru, tOf, tNotW, tAndW, tOrW, oAnd, oOr, oNotT, oIf, oChain, oTup, oLst, wArgs, oPrim, withOps, evOps, Opd.ev, oC, oVar, oSl, partEv, oMeth, isStrPV, oComp, oComp2, iSeq, iRange1, iRange2, rgW, oDict0, lift1, lift2, Opr.rd, rdAll, e_rl, Option.map_some, Option.map_none, e_pv, e_po, e_tb, e_ti, e_tn, e_tl, e_tt, e_add, e_addS, e_addL, e_addT, e_sub, e_mul, e_mod, e_fdiv, e_pow, e_neg, e_lt, e_le, e_gt, e_ge, e_eqI, e_lenT, e_lenL, e_lenS, e_lenR, e_tupL, e_tupT, e_intI, e_isiI, e_isiIB, e_isiT, e_isiS, e_isN, e_isI, e_isS, e_isT, e_sqT, e_sqL, e_sqS, wipeE, IL.envOf, List.map_cons, List.map_nil, List.length_cons, List.length_nil, Nat.zero_add, Nat.reduceSub, Nat.reduceAdd, List.replicate, List.cons_append, List.nil_append, List.set_cons_zero, List.set_cons_succ, List.getElem?_cons_zero, List.getElem?_cons_succ, List.getElem?_nil, restE, Option.join, Option.bind_some, Option.bind_none, id_eq, if_true, if_false, Bool.false_eq_true, Bool.not_true, Bool.not_false, Bool.bne_false, Bool.bne_true, reduceIte, Bool.true_bne, Bool.false_bne, and_true, true_and, fnW, oCall]
    refine i_take (by omega) (by omega) fun r _ _ => ?_
    simp only [sSeq, sNext, sRet, sRetN, sRetV, sSet, sIf, sDrop, sTgt, sPar, sNever, wTmps, setAll, sFor, gNm, IL.gTup, gEach, tTrue, tTru, tOf, tNotW, tAndW, tOrW, oAnd, oOr, oNotT, oIf, oChain, oTup, oLst, wArgs, oPrim, withOps, evOps, Opd.ev, oC, oVar, oSl, partEv, oMeth, isStrPV, oComp, oComp2, iSeq, iRange1, iRange2, rgW, oDict0, lift1, lift2, Opr.rd, rdAll, e_rl, Option.map_some, Option.map_none, e_pv, e_po, e_tb, e_ti, e_tn, e_tl, e_tt, e_add, e_addS, e_addL, e_addT, e_sub, e_mul, e_mod, e_fdiv, e_pow, e_neg, e_lt, e_le, e_gt, e_ge, e_eqI, e_lenT, e_lenL, e_lenS, e_lenR, e_tupL, e_tupT, e_intI, e_isiI, e_isiIB, e_isiT, e_isiS, e_isN, e_isI, e_isS, e_isT, e_sqT, e_sqL, e_sqS, wipeE, IL.envOf, List.map_cons, List.map_nil, List.length_cons, List.length_nil, Nat.zero_add, Nat.reduceSub, Nat.reduceAdd, List.replicate, List.cons_append, List.nil_append, List.set_cons_zero, List.set_cons_succ, List.getElem?_cons_zero, List.getElem?_cons_succ, List.getElem?_nil, restE, Option.join, Option.bind_some, Option.bind_none, id_eq, if_true, if_false, Bool.false_eq_true, Bool.not_true, Bool.not_false, Bool.bne_false, Bool.bne_true, reduceIte, Bool.true_bne, Bool.false_bne, and_true, true_and, fnW]
    split
    · refine ⟨size_le (by rw [List.length_map, pl]; omega), rfl, ?_⟩
      refine wComp_inv (fun xs acc => ∃ done rest : List Nat, (∀ n ∈ done, n < 10 ^ 100) ∧ (∀ n ∈ rest, n ≤ 64) ∧ done.length + rest.length = m ∧ xs = rest.map iPV ∧ acc = done.map iPV) (fun acc ⟨done, rest, h1, h2, h3, h4, h5⟩ => ?_) ⟨[], pointsL m ws, by simp, pts_small g, by simp [pl], rfl, rfl⟩ (fun x xs acc ⟨done, rest, h1, h2, h3, h4, h5⟩ K hK => ?_)
      · cases rest with
        | nil => cases h4
        | cons n rest =>
          rw [List.map_cons] at h4
          injection h4 with h4 h6
          subst h4 h5 h6
          simp only [sSeq, sNext, sRet, sRetN, sRetV, sSet, sIf, sDrop, sTgt, sPar, sNever, wTmps, setAll, sFor, gNm, IL.gTup, gEach, tTrue, tTru, tOf, tNotW, tAndW, tOrW, oAnd, oOr, oNotT, oIf, oChain, oTup, oLst, wArgs, oPrim, withOps, evOps, Opd.ev, oC, oVar, oSl, partEv, oMeth, isStrPV, oComp, oComp2, iSeq, iRange1, iRange2, rgW, oDict0, lift1, lift2, Opr.rd, rdAll, e_rl, Option.map_some, Option.map_none, e_pv, e_po, e_tb, e_ti, e_tn, e_tl, e_tt, e_add, e_addS, e_addL, e_addT, e_sub, e_mul, e_mod, e_fdiv, e_pow, e_neg, e_lt, e_le, e_gt, e_ge, e_eqI, e_lenT, e_lenL, e_lenS, e_lenR, e_tupL, e_tupT, e_intI, e_isiI, e_isiIB, e_isiT, e_isiS, e_isN, e_isI, e_isS, e_isT, e_sqT, e_sqL, e_sqS, wipeE, IL.envOf, List.map_cons, List.map_nil, List.length_cons, List.length_nil, Nat.zero_add, Nat.reduceSub, Nat.reduceAdd, List.replicate, List.cons_append, List.nil_append, List.set_cons_zero, List.set_cons_succ, List.getElem?_cons_zero, List.getElem?_cons_succ, List.getElem?_nil, restE, Option.join, Option.bind_some, Option.bind_none, id_eq, if_true, if_false, Bool.false_eq_true, Bool.not_true, Bool.not_false, Bool.bne_false, Bool.bne_true, reduceIte, Bool.true_bne, Bool.false_bne, and_true, true_and, fnW, oCall]
          refine i_take (by omega) (by omega) fun r r0 r1 => ?_
          obtain ⟨k, rfl⟩ := Int.eq_ofNat_of_zero_le r0
          simp only [sSeq, sNext, sRet, sRetN, sRetV, sSet, sIf, sDrop, sTgt, sPar, sNever, wTmps, setAll, sFor, gNm, IL.gTup, gEach, tTrue, tTru, tOf, tNotW, tAndW, tOrW, oAnd, oOr, oNotT, oIf, oChain, oTup, oLst, wArgs, oPrim, withOps, evOps, Opd.ev, oC, oVar, oSl, partEv, oMeth, isStrPV, oComp, oComp2, iSeq, iRange1, iRange2, rgW, oDict0, lift1, lift2, Opr.rd, rdAll, e_rl, Option.map_some, Option.map_none, e_pv, e_po, e_tb, e_ti, e_tn, e_tl, e_tt, e_add, e_addS, e_addL, e_addT, e_sub, e_mul, e_mod, e_fdiv, e_pow, e_neg, e_lt, e_le, e_gt, e_ge, e_eqI, e_lenT, e_lenL, e_lenS, e_lenR, e_tupL, e_tupT, e_intI, e_isiI, e_isiIB, e_isiT, e_isiS, e_isN, e_isI, e_isS, e_isT, e_sqT, e_sqL, e_sqS, wipeE, IL.envOf, List.map_cons, List.map_nil, List.length_cons, List.length_nil, Nat.zero_add, Nat.reduceSub, Nat.reduceAdd, List.replicate, List.cons_append, List.nil_append, List.set_cons_zero, List.set_cons_succ, List.getElem?_cons_zero, List.getElem?_cons_succ, List.getElem?_nil, restE, Option.join, Option.bind_some, Option.bind_none, id_eq, if_true, if_false, Bool.false_eq_true, Bool.not_true, Bool.not_false, Bool.bne_false, Bool.bne_true, reduceIte, Bool.true_bne, Bool.false_bne, and_true, true_and, fnW, iPV]
          refine ⟨⟨by decide, by decide, by decide +kernel⟩, .inr (.inl ⟨by omega, by omega⟩), ?_⟩
          have e : PV.int ((k : Int) * 10 ^ Int.toNat 29 + (n : Int)) = iPV (k * 10 ^ 29 + n) := by
            show PV.int _ = PV.int _
            congr 1
          rw [e]
          have hn := h2 n (by simp)
          refine hK _ ⟨done ++ [k * 10 ^ 29 + n], rest, fun x hx => ?_, fun x hx => h2 x (List.mem_cons_of_mem _ hx), by simp at h3 ⊢; omega, rfl, by simp⟩
          rcases List.mem_append.mp hx with hx | hx
          · exact h1 x hx
          · rw [List.mem_singleton.mp hx]
            have : k * 10 ^ 29 + n < 1000 * 10 ^ 29 + 100 := by
              have : k * 10 ^ 29 ≤ 1000 * 10 ^ 29 := Nat.mul_le_mul_right _ (by omega)
              omega
            exact Nat.lt_trans this (by decide +kernel)
      · subst h5
        have : rest = [] := List.map_eq_nil_iff.mp h4.symm
        subst this
        simp only [sSeq, sNext, sRet, sRetN, sRetV, sSet, sIf, sDrop, sTgt, sPar, sNever, wTmps, setAll, sFor, gNm, IL.gTup, gEach, tTrue, tTru, tOf, tNotW, tAndW, tOrW, oAnd, oOr, oNotT, oIf, oChain, oTup, oLst, wArgs, oPrim, withOps, evOps, Opd.ev, oC, oVar, oSl, partEv, oMeth, isStrPV, oComp, oComp2, iSeq, iRange1, iRange2, rgW, oDict0, lift1, lift2, Opr.rd, rdAll, e_rl, Option.map_some, Option.map_none, e_pv, e_po, e_tb, e_ti, e_tn, e_tl, e_tt, e_add, e_addS, e_addL, e_addT, e_sub, e_mul, e_mod, e_fdiv, e_pow, e_neg, e_lt, e_le, e_gt, e_ge, e_eqI, e_lenT, e_lenL, e_lenS, e_lenR, e_tupL, e_tupT, e_intI, e_isiI, e_isiIB, e_isiT, e_isiS, e_isN, e_isI, e_isS, e_isT, e_sqT, e_sqL, e_sqS, wipeE, IL.envOf, List.map_cons, List.map_nil, List.length_cons, List.length_nil, Nat.zero_add, Nat.reduceSub, Nat.reduceAdd, List.replicate, List.cons_append, List.nil_append, List.set_cons_zero, List.set_cons_succ, List.getElem?_cons_zero, List.getElem?_cons_succ, List.getElem?_nil, restE, Option.join, Option.bind_some, Option.bind_none, id_eq, if_true, if_false, Bool.false_eq_true, Bool.not_true, Bool.not_false, Bool.bne_false, Bool.bne_true, reduceIte, Bool.true_bne, Bool.false_bne, and_true, true_and, fnW]
        exact hK _ ⟨done, h1, by simpa using h3, rfl⟩
    · refine i_points g ?_
      try simp only [sSeq, sNext, sRet, sRetN, sRetV, sSet, sIf, sDrop, sTgt, sPar, sNever, wTmps, setAll, sFor, gNm, IL.gTup, gEach, tTrue, tTru, tOf, tNotW, tAndW, tOrW, oAnd, oOr, oNotT, oIf, oChain, oTup, oLst, wArgs, oPrim, withOps, evOps, Opd.ev, oC, oVar, oSl, partEv, oMeth, isStrPV, oComp, oComp2, iSeq, iRange1, iRange2, rgW, oDict0, lift1, lift2, Opr.rd, rdAll, e_rl, Option.map_some, Option.map_none, e_pv, e_po, e_tb, e_ti, e_tn, e_tl, e_tt, e_add, e_addS, e_addL, e_addT, e_sub, e_mul, e_mod, e_fdiv, e_pow, e_neg, e_lt, e_le, e_gt, e_ge, e_eqI, e_lenT, e_lenL, e_lenS, e_lenR, e_tupL, e_tupT, e_intI, e_isiI, e_isiIB, e_isiT, e_isiS, e_isN, e_isI, e_isS, e_isT, e_sqT, e_sqL, e_sqS, wipeE, IL.envOf, List.map_cons, List.map_nil, List.length_cons, List.length_nil, Nat.zero_add, Nat.reduceSub, Nat.reduceAdd, List.replicate, List.cons_append, List.nil_append, List.set_cons_zero, List.set_cons_succ, List.getElem?_cons_zero, List.getElem?_cons_succ, List.getElem?_nil, restE, Option.join, Option.bind_some, Option.bind_none, id_eq, if_true, if_false, Bool.false_eq_true, Bool.not_true, Bool.not_false, Bool.bne_false, Bool.bne_true, reduceIte, Bool.true_bne, Bool.false_bne, and_true, true_and, fnW]
      refine i_same8 (ds_nums (by omega)) (by omega) ?_
      simp only [sSeq, sNext, sRet, sRetN, sRetV, sSet, sIf, sDrop, sTgt, sPar, sNever, wTmps, setAll, sFor, gNm, IL.gTup, gEach, tTrue, tTru, tOf, tNotW, tAndW, tOrW, oAnd, oOr, oNotT, oIf, oChain, oTup, oLst, wArgs, oPrim, withOps, evOps, Opd.ev, oC, oVar, oSl, partEv, oMeth, isStrPV, oComp, oComp2, iSeq, iRange1, iRange2, rgW, oDict0, lift1, lift2, Opr.rd, rdAll, e_rl, Option.map_some, Option.map_none, e_pv, e_po, e_tb, e_ti, e_tn, e_tl, e_tt, e_add, e_addS, e_addL, e_addT, e_sub, e_mul, e_mod, e_fdiv, e_pow, e_neg, e_lt, e_le, e_gt, e_ge, e_eqI, e_lenT, e_lenL, e_lenS, e_lenR, e_tupL, e_tupT, e_intI, e_isiI, e_isiIB, e_isiT, e_isiS, e_isN, e_isI, e_isS, e_isT, e_sqT, e_sqL, e_sqS, wipeE, IL.envOf, List.map_cons, List.map_nil, List.length_cons, List.length_nil, Nat.zero_add, Nat.reduceSub, Nat.reduceAdd, List.replicate, List.cons_append, List.nil_append, List.set_cons_zero, List.set_cons_succ, List.getElem?_cons_zero, List.getElem?_cons_succ, List.getElem?_nil, restE, Option.join, Option.bind_some, Option.bind_none, id_eq, if_true, if_false, Bool.false_eq_true, Bool.not_true, Bool.not_false, Bool.bne_false, Bool.bne_true, reduceIte, Bool.true_bne, Bool.false_bne, and_true, true_and, fnW]
      exact hK _ ⟨_, pp, pl, rfl⟩
  obtain ⟨ns, hb, hl, he⟩ := he
  subst he
  have h1 : ns ≠ [] := fun z => by subst z; simp at hl; omega
  have dl : DS 3 (.str (lText ns)) := .str 3 strOk_l
  have dn : DS 3 (.tup (ns.map iPV)) := (ds_nums (by omega)).mono (by omega)
  refine sSeq_cut (fun e => e = [some (.v .well), some (.v (gPV m ws)), some (.v (.str (gText m ws))), some (.v (.tup (ns.map iPV))), some (.v (.str (gText m ws))), some (.v (gPV m ws)), none, some (.v (.str (lText ns)))]) (fun K hK => ?_) (fun e he => ?_)
  · simp only [sSeq, sNext, sRet, sRetN, sRetV, sSet, sIf, sDrop, sTgt, sPar, sNever, wTmps, setAll, sFor, gNm, IL.gTup, gEach, tTrue, tTru, tOf, tNotW, tAndW, tOrW, oAnd, oOr, oNotT, oIf, oChain, oTup, oLst, wArgs, oPrim, withOps, evOps, Opd.ev, oC, oVar, oSl, partEv, oMeth, isStrPV, oComp, oComp2, iSeq, iRange1, iRange2, rgW, oDict0, lift1, lift2, Opr.rd, rdAll, e_rl, Option.map_some, Option.map_none, e_pv, e_po, e_tb, e_ti, e_tn, e_tl, e_tt, e_add, e_addS, e_addL, e_addT, e_sub, e_mul, e_mod, e_fdiv, e_pow, e_neg, e_lt, e_le, e_gt, e_ge, e_eqI, e_lenT, e_lenL, e_lenS, e_lenR, e_tupL, e_tupT, e_intI, e_isiI, e_isiIB, e_isiT, e_isiS, e_isN, e_isI, e_isS, e_isT, e_sqT, e_sqL, e_sqS, wipeE, IL.envOf, List.map_cons, List.map_nil, List.length_cons, List.length_nil, Nat.zero_add, Nat.reduceSub, Nat.reduceAdd, List.replicate, List.cons_append, List.nil_append, List.set_cons_zero, List.set_cons_succ, List.getElem?_cons_zero, List.getElem?_cons_succ, List.getElem?_nil, restE, Option.join, Option.bind_some, Option.bind_none, id_eq, if_true, if_false, Bool.false_eq_true, Bool.not_true, Bool.not_false, Bool.bne_false, Bool.bne_true, reduceIte, Bool.true_bne, Bool.false_bne, and_true, true_and, fnW, oCall, oCallK]
    refine i_take (by omega) (by omega) fun r _ _ => ?_
    simp only [sSeq, sNext, sRet, sRetN, sRetV, sSet, sIf, sDrop, sTgt, sPar, sNever, wTmps, setAll, sFor, gNm, IL.gTup, gEach, tTrue, tTru, tOf, tNotW, tAndW, tOrW, oAnd, oOr, oNotT, oIf, oChain, oTup, oLst, wArgs, oPrim, withOps, evOps, Opd.ev, oC, oVar, oSl, partEv, oMeth, isStrPV, oComp, oComp2, iSeq, iRange1, iRange2, rgW, oDict0, lift1, lift2, Opr.rd, rdAll, e_rl, Option.map_some, Option.map_none, e_pv, e_po, e_tb, e_ti, e_tn, e_tl, e_tt, e_add, e_addS, e_addL, e_addT, e_sub, e_mul, e_mod, e_fdiv, e_pow, e_neg, e_lt, e_le, e_gt, e_ge, e_eqI, e_lenT, e_lenL, e_lenS, e_lenR, e_tupL, e_tupT, e_intI, e_isiI, e_isiIB, e_isiT, e_isiS, e_isN, e_isI, e_isS, e_isT, e_sqT, e_sqL, e_sqS, wipeE, IL.envOf, List.map_cons, List.map_nil, List.length_cons, List.length_nil, Nat.zero_add, Nat.reduceSub, Nat.reduceAdd, List.replicate, List.cons_append, List.nil_append, List.set_cons_zero, List.set_cons_succ, List.getElem?_cons_zero, List.getElem?_cons_succ, List.getElem?_nil, restE, Option.join, Option.bind_some, Option.bind_none, id_eq, if_true, if_false, Bool.false_eq_true, Bool.not_true, Bool.not_false, Bool.bne_false, Bool.bne_true, reduceIte, Bool.true_bne, Bool.false_bne, and_true, true_and, fnW]
    split
    · exact i_list_text hb (by omega) (by omega) (hK _ rfl)
    · refine ⟨rfl, ?_⟩
      exact i_list_text hb (by omega) (by omega) (hK _ rfl)
  subst he
  simp only [sSeq, sNext, sRet, sRetN, sRetV, sSet, sIf, sDrop, sTgt, sPar, sNever, wTmps, setAll, sFor, gNm, IL.gTup, gEach, tTrue, tTru, tOf, tNotW, tAndW, tOrW, oAnd, oOr, oNotT, oIf, oChain, oTup, oLst, wArgs, oPrim, withOps, evOps, Opd.ev, oC, oVar, oSl, partEv, oMeth, isStrPV, oComp, oComp2, iSeq, iRange1, iRange2, rgW, oDict0, lift1, lift2, Opr.rd, rdAll, e_rl, Option.map_some, Option.map_none, e_pv, e_po, e_tb, e_ti, e_tn, e_tl, e_tt, e_add, e_addS, e_addL, e_addT, e_sub, e_mul, e_mod, e_fdiv, e_pow, e_neg, e_lt, e_le, e_gt, e_ge, e_eqI, e_lenT, e_lenL, e_lenS, e_lenR, e_tupL, e_tupT, e_intI, e_isiI, e_isiIB, e_isiT, e_isiS, e_isN, e_isI, e_isS, e_isT, e_sqT, e_sqL, e_sqS, wipeE, IL.envOf, List.map_cons, List.map_nil, List.length_cons, List.length_nil, Nat.zero_add, Nat.reduceSub, Nat.reduceAdd, List.replicate, List.cons_append, List.nil_append, List.set_cons_zero, List.set_cons_succ, List.getElem?_cons_zero, List.getElem?_cons_succ, List.getElem?_nil, restE, Option.join, Option.bind_some, Option.bind_none, id_eq, if_true, if_false, Bool.false_eq_true, Bool.not_true, Bool.not_false, Bool.bne_false, Bool.bne_true, reduceIte, Bool.true_bne, Bool.false_bne, and_true, true_and, fnW, oCall, oCallK]
  refine i_read_list hb h1 (by omega) ?_
  try simp only [sSeq, sNext, sRet, sRetN, sRetV, sSet, sIf, sDrop, sTgt, sPar, sNever, wTmps, setAll, sFor, gNm, IL.gTup, gEach, tTrue, tTru, tOf, tNotW, tAndW, tOrW, oAnd, oOr, oNotT, oIf, oChain, oTup, oLst, wArgs, oPrim, withOps, evOps, Opd.ev, oC, oVar, oSl, partEv, oMeth, isStrPV, oComp, oComp2, iSeq, iRange1, iRange2, rgW, oDict0, lift1, lift2, Opr.rd, rdAll, e_rl, Option.map_some, Option.map_none, e_pv, e_po, e_tb, e_ti, e_tn, e_tl, e_tt, e_add, e_addS, e_addL, e_addT, e_sub, e_mul, e_mod, e_fdiv, e_pow, e_neg, e_lt, e_le, e_gt, e_ge, e_eqI, e_lenT, e_lenL, e_lenS, e_lenR, e_tupL, e_tupT, e_intI, e_isiI, e_isiIB, e_isiT, e_isiS, e_isN, e_isI, e_isS, e_isT, e_sqT, e_sqL, e_sqS, wipeE, IL.envOf, List.map_cons, List.map_nil, List.length_cons, List.length_nil, Nat.zero_add, Nat.reduceSub, Nat.reduceAdd, List.replicate, List.cons_append, List.nil_append, List.set_cons_zero, List.set_cons_succ, List.getElem?_cons_zero, List.getElem?_cons_succ, List.getElem?_nil, restE, Option.join, Option.bind_some, Option.bind_none, id_eq, if_true, if_false, Bool.false_eq_true, Bool.not_true, Bool.not_false, Bool.bne_false, Bool.bne_true, reduceIte, Bool.true_bne, Bool.false_bne, and_true, true_and, fnW]
  refine ⟨rfl, ?_⟩
  refine i_read_list hb h1 (by omega) ?_
  try simp only [sSeq, sNext, sRet, sRetN, sRetV, sSet, sIf, sDrop, sTgt, sPar, sNever, wTmps, setAll, sFor, gNm, IL.gTup, gEach, tTrue, tTru, tOf, tNotW, tAndW, tOrW, oAnd, oOr, oNotT, oIf, oChain, oTup, oLst, wArgs, oPrim, withOps, evOps, Opd.ev, oC, oVar, oSl, partEv, oMeth, isStrPV, oComp, oComp2, iSeq, iRange1, iRange2, rgW, oDict0, lift1, lift2, Opr.rd, rdAll, e_rl, Option.map_some, Option.map_none, e_pv, e_po, e_tb, e_ti, e_tn, e_tl, e_tt, e_add, e_addS, e_addL, e_addT, e_sub, e_mul, e_mod, e_fdiv, e_pow, e_neg, e_lt, e_le, e_gt, e_ge, e_eqI, e_lenT, e_lenL, e_lenS, e_lenR, e_tupL, e_tupT, e_intI, e_isiI, e_isiIB, e_isiT, e_isiS, e_isN, e_isI, e_isS, e_isT, e_sqT, e_sqL, e_sqS, wipeE, IL.envOf, List.map_cons, List.map_nil, List.length_cons, List.length_nil, Nat.zero_add, Nat.reduceSub, Nat.reduceAdd, List.replicate, List.cons_append, List.nil_append, List.set_cons_zero, List.set_cons_succ, List.getElem?_cons_zero, List.getElem?_cons_succ, List.getElem?_nil, restE, Option.join, Option.bind_some, Option.bind_none, id_eq, if_true, if_false, Bool.false_eq_true, Bool.not_true, Bool.not_false, Bool.bne_false, Bool.bne_true, reduceIte, Bool.true_bne, Bool.false_bne, and_true, true_and, fnW]
  refine i_law_list_text hb (by omega) ?_
  try simp only [sSeq, sNext, sRet, sRetN, sRetV, sSet, sIf, sDrop, sTgt, sPar, sNever, wTmps, setAll, sFor, gNm, IL.gTup, gEach, tTrue, tTru, tOf, tNotW, tAndW, tOrW, oAnd, oOr, oNotT, oIf, oChain, oTup, oLst, wArgs, oPrim, withOps, evOps, Opd.ev, oC, oVar, oSl, partEv, oMeth, isStrPV, oComp, oComp2, iSeq, iRange1, iRange2, rgW, oDict0, lift1, lift2, Opr.rd, rdAll, e_rl, Option.map_some, Option.map_none, e_pv, e_po, e_tb, e_ti, e_tn, e_tl, e_tt, e_add, e_addS, e_addL, e_addT, e_sub, e_mul, e_mod, e_fdiv, e_pow, e_neg, e_lt, e_le, e_gt, e_ge, e_eqI, e_lenT, e_lenL, e_lenS, e_lenR, e_tupL, e_tupT, e_intI, e_isiI, e_isiIB, e_isiT, e_isiS, e_isN, e_isI, e_isS, e_isT, e_sqT, e_sqL, e_sqS, wipeE, IL.envOf, List.map_cons, List.map_nil, List.length_cons, List.length_nil, Nat.zero_add, Nat.reduceSub, Nat.reduceAdd, List.replicate, List.cons_append, List.nil_append, List.set_cons_zero, List.set_cons_succ, List.getElem?_cons_zero, List.getElem?_cons_succ, List.getElem?_nil, restE, Option.join, Option.bind_some, Option.bind_none, id_eq, if_true, if_false, Bool.false_eq_true, Bool.not_true, Bool.not_false, Bool.bne_false, Bool.bne_true, reduceIte, Bool.true_bne, Bool.false_bne, and_true, true_and, fnW]
  exact i_same8 (ds_3 dl dn dn) (by omega) h
end ILaw

namespace ILaw
open PySem PySem.Spec PyProof.Rows L2 IL TL
variable {Q : TV → Prop}
abbrev GG := Nat × List (Nat × Nat)
def kG (g : GG) : Key := .inr (gText g.1 g.2)
def vG (g : GG) : PV := gPV g.1 g.2
theorem kG_inj {g g' : GG} (h : kG g = kG g') : g = g' := by
  injection h with h
  obtain ⟨h1, h2⟩ := gText_inj h
  exact Prod.ext h1 h2
theorem look_G (g : GG) : ∀ {gs : List GG} {y : PV}, dLook (gs.map kG) (gs.map vG) (kG g) = some y → y = vG g
  | [], _, h => by cases h
  | a :: gs, y, h => by
    have h : (if kG a = kG g then some (vG a) else dLook (gs.map kG) (gs.map vG) (kG g)) = some y := h
    split at h
    · rename_i e
      cases h
      rw [kG_inj e]
    · exact look_G g h
theorem putV_G (g : GG) : ∀ {gs : List GG}, dPutV (gs.map kG) (gs.map vG) (kG g) (vG g) = gs.map vG
  | [] => rfl
  | a :: gs => by
    show (if kG a = kG g then vG g else vG a) :: dPutV (gs.map kG) (gs.map vG) (kG g) (vG g) = vG a :: gs.map vG
    rw [putV_G g]
    split
    · rename_i e
      rw [kG_inj e]
    · rfl
theorem put_G (g : GG) (gs : List GG) : ∃ gs' : List GG, gs'.length ≤ gs.length + 1 ∧ dPutK (gs.map kG) (kG g) = gs'.map kG ∧ dPut (gs.map kG) (gs.map vG) (kG g) (vG g) = gs'.map vG := by
  by_cases h : kG g ∈ gs.map kG
  · refine ⟨gs, by omega, ?_, ?_⟩
    · unfold dPutK; rw [if_pos h]
    · unfold dPut; rw [if_pos h]; exact putV_G g
  · refine ⟨gs ++ [g], by simp, ?_, ?_⟩
    · unfold dPutK; rw [if_neg h, List.map_append]; rfl
    · unfold dPut; rw [if_neg h, List.map_append]; rfl
theorem good0 {m : Nat} (h1 : 1 ≤ m) (h8 : m ≤ 8) : Good m [] := ⟨h1, h8, by simp, List.Pairwise.nil, by simp, by simp⟩
theorem txt1 : gText 1 [] = ("players 1\n" : Str) := by decide +kernel
theorem txt8 : ("players 8\n" : Str) = gText 8 [] := by decide +kernel
theorem txt0 : lText [0] = ("0" : Str) := by decide +kernel
theorem txt7 : ("7" : Str) = lText [7] := by decide +kernel
theorem i_law_right (h : Q (.v (.bl true))) : F__law_right [.well] Q := by
  unfold F__law_right b__law_right fnW
  refine sSeq_cut (fun e => e = [some (.v .well), some (.own (.dK [] [])), none, none, none, none]) (fun K hK => ?_) (fun e he => ?_)
  · simp only [sSeq, sNext, sRet, sRetN, sRetV, sSet, sIf, sDrop, sTgt, sPar, sNever, wTmps, setAll, sFor, gNm, IL.gTup, gEach, tTrue, tTru, tOf, tNotW, tAndW, tOrW, oAnd, oOr, oNotT, oIf, oChain, oTup, oLst, wArgs, oPrim, withOps, evOps, Opd.ev, oC, oVar, oSl, partEv, oMeth, isStrPV, oComp, oComp2, iSeq, iRange1, iRange2, rgW, oDict0, lift1, lift2, Opr.rd, rdAll, e_rl, Option.map_some, Option.map_none, e_pv, e_po, e_tb, e_ti, e_tn, e_tl, e_tt, e_add, e_addS, e_addL, e_addT, e_sub, e_mul, e_mod, e_fdiv, e_pow, e_neg, e_lt, e_le, e_gt, e_ge, e_eqI, e_lenT, e_lenL, e_lenS, e_lenR, e_tupL, e_tupT, e_intI, e_isiI, e_isiIB, e_isiT, e_isiS, e_isN, e_isI, e_isS, e_isT, e_sqT, e_sqL, e_sqS, wipeE, IL.envOf, List.map_cons, List.map_nil, List.length_cons, List.length_nil, Nat.zero_add, Nat.reduceSub, Nat.reduceAdd, List.replicate, List.cons_append, List.nil_append, List.set_cons_zero, List.set_cons_succ, List.getElem?_cons_zero, List.getElem?_cons_succ, List.getElem?_nil, restE, Option.join, Option.bind_some, Option.bind_none, id_eq, if_true, if_false, Bool.false_eq_true, Bool.not_true, Bool.not_false, Bool.bne_false, Bool.bne_true, reduceIte, Bool.true_bne, Bool.false_bne, and_true, true_and, fnW]
    exact hK _ rfl
  subst he
  refine sSeq_cut (fun e => e[0]? = some (some (.v .well))) (fun K hK => ?_) (fun e he => ?_)
  · simp only [sSeq, sNext, sRet, sRetN, sRetV, sSet, sIf, sDrop, sTgt, sPar, sNever, wTmps, setAll, sFor, gNm, IL.gTup, gEach, tTrue, tTru, tOf, tNotW, tAndW, tOrW, oAnd, oOr, oNotT, oIf, oChain, oTup, oLst, wArgs, oPrim, withOps, evOps, Opd.ev, oC, oVar, oSl, partEv, oMeth, isStrPV, oComp, oComp2, iSeq, iRange1, iRange2, rgW, oDict0, lift1, lift2, Opr.rd, rdAll, e_rl, Option.map_some, Option.map_none, e_pv, e_po, e_tb, e_ti, e_tn, e_tl, e_tt, e_add, e_addS, e_addL, e_addT, e_sub, e_mul, e_mod, e_fdiv, e_pow, e_neg, e_lt, e_le, e_gt, e_ge, e_eqI, e_lenT, e_lenL, e_lenS, e_lenR, e_tupL, e_tupT, e_intI, e_isiI, e_isiIB, e_isiT, e_isiS, e_isN, e_isI, e_isS, e_isT, e_sqT, e_sqL, e_sqS, wipeE, IL.envOf, List.map_cons, List.map_nil, List.length_cons, List.length_nil, Nat.zero_add, Nat.reduceSub, Nat.reduceAdd, List.replicate, List.cons_append, List.nil_append, List.set_cons_zero, List.set_cons_succ, List.getElem?_cons_zero, List.getElem?_cons_succ, List.getElem?_nil, restE, Option.join, Option.bind_some, Option.bind_none, id_eq, if_true, if_false, Bool.false_eq_true, Bool.not_true, Bool.not_false, Bool.bne_false, Bool.bne_true, reduceIte, Bool.true_bne, Bool.false_bne, and_true, true_and, fnW]
    refine ⟨by omega, ?_⟩
    refine wFor_inv (fun xs e => ∃ (gs : List GG) (e2 e3 e4 e5 : Option TV), gs.length + xs.length ≤ 20 ∧ e = [some (.v .well), some (.own (.dK (gs.map kG) (gs.map vG))), e2, e3, e4, e5]) (fun e ⟨gs, e2, e3, e4, e5, h1, he⟩ => ?_) ⟨[], none, none, none, none, by rw [rangePV_len]; decide, rfl⟩ (fun x xs e ⟨gs, e2, e3, e4, e5, h1, he⟩ K hK => ?_)
    · subst he
      exact hK _ rfl
    · subst he
      rw [List.length_cons] at h1
      show sSeq _ _ _ [some (.v .well), some (.own (.dK (gs.map kG) (gs.map vG))), some (.v x), e3, e4, e5]
      refine sSeq_cut (fun e => ∃ m : Nat, 1 ≤ m ∧ m ≤ 8 ∧ e = [some (.v .well), some (.own (.dK (gs.map kG) (gs.map vG))), some (.v x), some (.v (.int m)), e4, e5]) (fun K hK => ?_) (fun e he => ?_)
      · simp only [sSeq, sNext, sRet, sRetN, sRetV, sSet, sIf, sDrop, sTgt, sPar, sNever, wTmps, setAll, sFor, gNm, IL.gTup, gEach, tTrue, tTru, tOf, tNotW, tAndW, tOrW, oAnd, oOr, oNotT, oIf, oChain, oTup, oLst, wArgs, oPrim, withOps, evOps, Opd.ev, oC, oVar, oSl, partEv, oMeth, isStrPV, oComp, oComp2, iSeq, iRange1, iRange2, rgW, oDict0, lift1, lift2, Opr.rd, rdAll, e_rl, Option.map_some, Option.map_none, e_pv, e_po, e_tb, e_ti, e_tn, e_tl, e_tt, e_add, e_addS, e_addL, e_addT, e_sub, e_mul, e_mod, e_fdiv, e_pow, e_neg, e_lt, e_le, e_gt, e_ge, e_eqI, e_lenT, e_lenL, e_lenS, e_lenR, e_tupL, e_tupT, e_intI, e_isiI, e_isiIB, e_isiT, e_isiS, e_isN, e_isI, e_isS, e_isT, e_sqT, e_sqL, e_sqS, wipeE, IL.envOf, List.map_cons, List.map_nil, List.length_cons, List.length_nil, Nat.zero_add, Nat.reduceSub, Nat.reduceAdd, List.replicate, List.cons_append, List.nil_append, List.set_cons_zero, List.set_cons_succ, List.getElem?_cons_zero, List.getElem?_cons_succ, List.getElem?_nil, restE, Option.join, Option.bind_some, Option.bind_none, id_eq, if_true, if_false, Bool.false_eq_true, Bool.not_true, Bool.not_false, Bool.bne_false, Bool.bne_true, reduceIte, Bool.true_bne, Bool.false_bne, and_true, true_and, fnW, oCall]
        refine i_take (by omega) (by omega) fun r r0 r1 => ?_
        obtain ⟨k, rfl⟩ := Int.eq_ofNat_of_zero_le r0
        simp only [sSeq, sNext, sRet, sRetN, sRetV, sSet, sIf, sDrop, sTgt, sPar, sNever, wTmps, setAll, sFor, gNm, IL.gTup, gEach, tTrue, tTru, tOf, tNotW, tAndW, tOrW, oAnd, oOr, oNotT, oIf, oChain, oTup, oLst, wArgs, oPrim, withOps, evOps, Opd.ev, oC, oVar, oSl, partEv, oMeth, isStrPV, oComp, oComp2, iSeq, iRange1, iRange2, rgW, oDict0, lift1, lift2, Opr.rd, rdAll, e_rl, Option.map_some, Option.map_none, e_pv, e_po, e_tb, e_ti, e_tn, e_tl, e_tt, e_add, e_addS, e_addL, e_addT, e_sub, e_mul, e_mod, e_fdiv, e_pow, e_neg, e_lt, e_le, e_gt, e_ge, e_eqI, e_lenT, e_lenL, e_lenS, e_lenR, e_tupL, e_tupT, e_intI, e_isiI, e_isiIB, e_isiT, e_isiS, e_isN, e_isI, e_isS, e_isT, e_sqT, e_sqL, e_sqS, wipeE, IL.envOf, List.map_cons, List.map_nil, List.length_cons, List.length_nil, Nat.zero_add, Nat.reduceSub, Nat.reduceAdd, List.replicate, List.cons_append, List.nil_append, List.set_cons_zero, List.set_cons_succ, List.getElem?_cons_zero, List.getElem?_cons_succ, List.getElem?_nil, restE, Option.join, Option.bind_some, Option.bind_none, id_eq, if_true, if_false, Bool.false_eq_true, Bool.not_true, Bool.not_false, Bool.bne_false, Bool.bne_true, reduceIte, Bool.true_bne, Bool.false_bne, and_true, true_and, fnW]
        exact hK _ ⟨1 + k, by omega, by omega, by simp⟩
      obtain ⟨m, m1, m8, he⟩ := he
      subst he
      refine sSeq_cut (fun e => ∃ ws, Good m ws ∧ e = [some (.v .well), some (.own (.dK (gs.map kG) (gs.map vG))), some (.v x), some (.v (.int m)), some (.v (gPV m ws)), e5]) (fun K hK => ?_) (fun e he => ?_)
      · simp only [sSeq, sNext, sRet, sRetN, sRetV, sSet, sIf, sDrop, sTgt, sPar, sNever, wTmps, setAll, sFor, gNm, IL.gTup, gEach, tTrue, tTru, tOf, tNotW, tAndW, tOrW, oAnd, oOr, oNotT, oIf, oChain, oTup, oLst, wArgs, oPrim, withOps, evOps, Opd.ev, oC, oVar, oSl, partEv, oMeth, isStrPV, oComp, oComp2, iSeq, iRange1, iRange2, rgW, oDict0, lift1, lift2, Opr.rd, rdAll, e_rl, Option.map_some, Option.map_none, e_pv, e_po, e_tb, e_ti, e_tn, e_tl, e_tt, e_add, e_addS, e_addL, e_addT, e_sub, e_mul, e_mod, e_fdiv, e_pow, e_neg, e_lt, e_le, e_gt, e_ge, e_eqI, e_lenT, e_lenL, e_lenS, e_lenR, e_tupL, e_tupT, e_intI, e_isiI, e_isiIB, e_isiT, e_isiS, e_isN, e_isI, e_isS, e_isT, e_sqT, e_sqL, e_sqS, wipeE, IL.envOf, List.map_cons, List.map_nil, List.length_cons, List.length_nil, Nat.zero_add, Nat.reduceSub, Nat.reduceAdd, List.replicate, List.cons_append, List.nil_append, List.set_cons_zero, List.set_cons_succ, List.getElem?_cons_zero, List.getElem?_cons_succ, List.getElem?_nil, restE, Option.join, Option.bind_some, Option.bind_none, id_eq, if_true, if_false, Bool.false_eq_true, Bool.not_true, Bool.not_false, Bool.bne_false, Bool.bne_true, reduceIte, Bool.true_bne, Bool.false_bne, and_true, true_and, fnW, oCall]
        refine i_take (by omega) (by omega) fun r r0 r1 => ?_
        simp only [sSeq, sNext, sRet, sRetN, sRetV, sSet, sIf, sDrop, sTgt, sPar, sNever, wTmps, setAll, sFor, gNm, IL.gTup, gEach, tTrue, tTru, tOf, tNotW, tAndW, tOrW, oAnd, oOr, oNotT, oIf, oChain, oTup, oLst, wArgs, oPrim, withOps, evOps, Opd.ev, oC, oVar, oSl, partEv, oMeth, isStrPV, oComp, oComp2, iSeq, iRange1, iRange2, rgW, oDict0, lift1, lift2, Opr.rd, rdAll, e_rl, Option.map_some, Option.map_none, e_pv, e_po, e_tb, e_ti, e_tn, e_tl, e_tt, e_add, e_addS, e_addL, e_addT, e_sub, e_mul, e_mod, e_fdiv, e_pow, e_neg, e_lt, e_le, e_gt, e_ge, e_eqI, e_lenT, e_lenL, e_lenS, e_lenR, e_tupL, e_tupT, e_intI, e_isiI, e_isiIB, e_isiT, e_isiS, e_isN, e_isI, e_isS, e_isT, e_sqT, e_sqL, e_sqS, wipeE, IL.envOf, List.map_cons, List.map_nil, List.length_cons, List.length_nil, Nat.zero_add, Nat.reduceSub, Nat.reduceAdd, List.replicate, List.cons_append, List.nil_append, List.set_cons_zero, List.set_cons_succ, List.getElem?_cons_zero, List.getElem?_cons_succ, List.getElem?_nil, restE, Option.join, Option.bind_some, Option.bind_none, id_eq, if_true, if_false, Bool.false_eq_true, Bool.not_true, Bool.not_false, Bool.bne_false, Bool.bne_true, reduceIte, Bool.true_bne, Bool.false_bne, and_true, true_and, fnW]
        split
        · exact i_results m1 m8 fun ws g => hK _ ⟨ws, g, rfl⟩
        · refine i_take (by omega) (by omega) fun r r0 r1 => ?_
          try simp only [sSeq, sNext, sRet, sRetN, sRetV, sSet, sIf, sDrop, sTgt, sPar, sNever, wTmps, setAll, sFor, gNm, IL.gTup, gEach, tTrue, tTru, tOf, tNotW, tAndW, tOrW, oAnd, oOr, oNotT, oIf, oChain, oTup, oLst, wArgs, oPrim, withOps, evOps, Opd.ev, oC, oVar, oSl, partEv, oMeth, isStrPV, oComp, oComp2, iSeq, iRange1, iRange2, rgW, oDict0, lift1, lift2, Opr.rd, rdAll, e_rl, Option.map_some, Option.map_none, e_pv, e_po, e_tb, e_ti, e_tn, e_tl, e_tt, e_add, e_addS, e_addL, e_addT, e_sub, e_mul, e_mod, e_fdiv, e_pow, e_neg, e_lt, e_le, e_gt, e_ge, e_eqI, e_lenT, e_lenL, e_lenS, e_lenR, e_tupL, e_tupT, e_intI, e_isiI, e_isiIB, e_isiT, e_isiS, e_isN, e_isI, e_isS, e_isT, e_sqT, e_sqL, e_sqS, wipeE, IL.envOf, List.map_cons, List.map_nil, List.length_cons, List.length_nil, Nat.zero_add, Nat.reduceSub, Nat.reduceAdd, List.replicate, List.cons_append, List.nil_append, List.set_cons_zero, List.set_cons_succ, List.getElem?_cons_zero, List.getElem?_cons_succ, List.getElem?_nil, restE, Option.join, Option.bind_some, Option.bind_none, id_eq, if_true, if_false, Bool.false_eq_true, Bool.not_true, Bool.not_false, Bool.bne_false, Bool.bne_true, reduceIte, Bool.true_bne, Bool.false_bne, and_true, true_and, fnW]
          exact i_games m1 m8 fun ws g => hK _ ⟨ws, g, rfl⟩
      obtain ⟨ws, g, he⟩ := he
      subst he
      simp only [sSeq, sNext, sRet, sRetN, sRetV, sSet, sIf, sDrop, sTgt, sPar, sNever, wTmps, setAll, sFor, gNm, IL.gTup, gEach, tTrue, tTru, tOf, tNotW, tAndW, tOrW, oAnd, oOr, oNotT, oIf, oChain, oTup, oLst, wArgs, oPrim, withOps, evOps, Opd.ev, oC, oVar, oSl, partEv, oMeth, isStrPV, oComp, oComp2, iSeq, iRange1, iRange2, rgW, oDict0, lift1, lift2, Opr.rd, rdAll, e_rl, Option.map_some, Option.map_none, e_pv, e_po, e_tb, e_ti, e_tn, e_tl, e_tt, e_add, e_addS, e_addL, e_addT, e_sub, e_mul, e_mod, e_fdiv, e_pow, e_neg, e_lt, e_le, e_gt, e_ge, e_eqI, e_lenT, e_lenL, e_lenS, e_lenR, e_tupL, e_tupT, e_intI, e_isiI, e_isiIB, e_isiT, e_isiS, e_isN, e_isI, e_isS, e_isT, e_sqT, e_sqL, e_sqS, wipeE, IL.envOf, List.map_cons, List.map_nil, List.length_cons, List.length_nil, Nat.zero_add, Nat.reduceSub, Nat.reduceAdd, List.replicate, List.cons_append, List.nil_append, List.set_cons_zero, List.set_cons_succ, List.getElem?_cons_zero, List.getElem?_cons_succ, List.getElem?_nil, restE, Option.join, Option.bind_some, Option.bind_none, id_eq, if_true, if_false, Bool.false_eq_true, Bool.not_true, Bool.not_false, Bool.bne_false, Bool.bne_true, reduceIte, Bool.true_bne, Bool.false_bne, and_true, true_and, fnW, oCall]
      refine i_is_told g ?_
      simp only [sSeq, sNext, sRet, sRetN, sRetV, sSet, sIf, sDrop, sTgt, sPar, sNever, wTmps, setAll, sFor, gNm, IL.gTup, gEach, tTrue, tTru, tOf, tNotW, tAndW, tOrW, oAnd, oOr, oNotT, oIf, oChain, oTup, oLst, wArgs, oPrim, withOps, evOps, Opd.ev, oC, oVar, oSl, partEv, oMeth, isStrPV, oComp, oComp2, iSeq, iRange1, iRange2, rgW, oDict0, lift1, lift2, Opr.rd, rdAll, e_rl, Option.map_some, Option.map_none, e_pv, e_po, e_tb, e_ti, e_tn, e_tl, e_tt, e_add, e_addS, e_addL, e_addT, e_sub, e_mul, e_mod, e_fdiv, e_pow, e_neg, e_lt, e_le, e_gt, e_ge, e_eqI, e_lenT, e_lenL, e_lenS, e_lenR, e_tupL, e_tupT, e_intI, e_isiI, e_isiIB, e_isiT, e_isiS, e_isN, e_isI, e_isS, e_isT, e_sqT, e_sqL, e_sqS, wipeE, IL.envOf, List.map_cons, List.map_nil, List.length_cons, List.length_nil, Nat.zero_add, Nat.reduceSub, Nat.reduceAdd, List.replicate, List.cons_append, List.nil_append, List.set_cons_zero, List.set_cons_succ, List.getElem?_cons_zero, List.getElem?_cons_succ, List.getElem?_nil, restE, Option.join, Option.bind_some, Option.bind_none, id_eq, if_true, if_false, Bool.false_eq_true, Bool.not_true, Bool.not_false, Bool.bne_false, Bool.bne_true, reduceIte, Bool.true_bne, Bool.false_bne, and_true, true_and, fnW]
      refine i_games_text g ?_
      simp only [sSeq, sNext, sRet, sRetN, sRetV, sSet, sIf, sDrop, sTgt, sPar, sNever, wTmps, setAll, sFor, gNm, IL.gTup, gEach, tTrue, tTru, tOf, tNotW, tAndW, tOrW, oAnd, oOr, oNotT, oIf, oChain, oTup, oLst, wArgs, oPrim, withOps, evOps, Opd.ev, oC, oVar, oSl, partEv, oMeth, isStrPV, oComp, oComp2, iSeq, iRange1, iRange2, rgW, oDict0, lift1, lift2, Opr.rd, rdAll, e_rl, Option.map_some, Option.map_none, e_pv, e_po, e_tb, e_ti, e_tn, e_tl, e_tt, e_add, e_addS, e_addL, e_addT, e_sub, e_mul, e_mod, e_fdiv, e_pow, e_neg, e_lt, e_le, e_gt, e_ge, e_eqI, e_lenT, e_lenL, e_lenS, e_lenR, e_tupL, e_tupT, e_intI, e_isiI, e_isiIB, e_isiT, e_isiS, e_isN, e_isI, e_isS, e_isT, e_sqT, e_sqL, e_sqS, wipeE, IL.envOf, List.map_cons, List.map_nil, List.length_cons, List.length_nil, Nat.zero_add, Nat.reduceSub, Nat.reduceAdd, List.replicate, List.cons_append, List.nil_append, List.set_cons_zero, List.set_cons_succ, List.getElem?_cons_zero, List.getElem?_cons_succ, List.getElem?_nil, restE, Option.join, Option.bind_some, Option.bind_none, id_eq, if_true, if_false, Bool.false_eq_true, Bool.not_true, Bool.not_false, Bool.bne_false, Bool.bne_true, reduceIte, Bool.true_bne, Bool.false_bne, and_true, true_and, fnW, oGet2, isDct, dAny, IL.keyOf]
      obtain ⟨gs', hl, hk1, hv1⟩ := put_G (m, ws) gs
      have hk1 : dPutK (gs.map kG) (.inr (gText m ws)) = gs'.map kG := hk1
      have hv1 : dPut (gs.map kG) (gs.map vG) (.inr (gText m ws)) (gPV m ws) = gs'.map vG := hv1
      have room : (gs.map kG).length < sizeLine := by
        have := size_le (n := gs.length + 1) (by omega)
        simp; omega
      cases hl2 : dLook (gs.map kG) (gs.map vG) (.inr (gText m ws)) with
      | none =>
        try simp only [sSeq, sNext, sRet, sRetN, sRetV, sSet, sIf, sDrop, sTgt, sPar, sNever, wTmps, setAll, sFor, gNm, IL.gTup, gEach, tTrue, tTru, tOf, tNotW, tAndW, tOrW, oAnd, oOr, oNotT, oIf, oChain, oTup, oLst, wArgs, oPrim, withOps, evOps, Opd.ev, oC, oVar, oSl, partEv, oMeth, isStrPV, oComp, oComp2, iSeq, iRange1, iRange2, rgW, oDict0, lift1, lift2, Opr.rd, rdAll, e_rl, Option.map_some, Option.map_none, e_pv, e_po, e_tb, e_ti, e_tn, e_tl, e_tt, e_add, e_addS, e_addL, e_addT, e_sub, e_mul, e_mod, e_fdiv, e_pow, e_neg, e_lt, e_le, e_gt, e_ge, e_eqI, e_lenT, e_lenL, e_lenS, e_lenR, e_tupL, e_tupT, e_intI, e_isiI, e_isiIB, e_isiT, e_isiS, e_isN, e_isI, e_isS, e_isT, e_sqT, e_sqL, e_sqS, wipeE, IL.envOf, List.map_cons, List.map_nil, List.length_cons, List.length_nil, Nat.zero_add, Nat.reduceSub, Nat.reduceAdd, List.replicate, List.cons_append, List.nil_append, List.set_cons_zero, List.set_cons_succ, List.getElem?_cons_zero, List.getElem?_cons_succ, List.getElem?_nil, restE, Option.join, Option.bind_some, Option.bind_none, id_eq, if_true, if_false, Bool.false_eq_true, Bool.not_true, Bool.not_false, Bool.bne_false, Bool.bne_true, reduceIte, Bool.true_bne, Bool.false_bne, and_true, true_and, fnW]
        refine pEq_self (okD_g m ws) ?_
        simp only [sSeq, sNext, sRet, sRetN, sRetV, sSet, sIf, sDrop, sTgt, sPar, sNever, wTmps, setAll, sFor, gNm, IL.gTup, gEach, tTrue, tTru, tOf, tNotW, tAndW, tOrW, oAnd, oOr, oNotT, oIf, oChain, oTup, oLst, wArgs, oPrim, withOps, evOps, Opd.ev, oC, oVar, oSl, partEv, oMeth, isStrPV, oComp, oComp2, iSeq, iRange1, iRange2, rgW, oDict0, lift1, lift2, Opr.rd, rdAll, e_rl, Option.map_some, Option.map_none, e_pv, e_po, e_tb, e_ti, e_tn, e_tl, e_tt, e_add, e_addS, e_addL, e_addT, e_sub, e_mul, e_mod, e_fdiv, e_pow, e_neg, e_lt, e_le, e_gt, e_ge, e_eqI, e_lenT, e_lenL, e_lenS, e_lenR, e_tupL, e_tupT, e_intI, e_isiI, e_isiIB, e_isiT, e_isiS, e_isN, e_isI, e_isS, e_isT, e_sqT, e_sqL, e_sqS, wipeE, IL.envOf, List.map_cons, List.map_nil, List.length_cons, List.length_nil, Nat.zero_add, Nat.reduceSub, Nat.reduceAdd, List.replicate, List.cons_append, List.nil_append, List.set_cons_zero, List.set_cons_succ, List.getElem?_cons_zero, List.getElem?_cons_succ, List.getElem?_nil, restE, Option.join, Option.bind_some, Option.bind_none, id_eq, if_true, if_false, Bool.false_eq_true, Bool.not_true, Bool.not_false, Bool.bne_false, Bool.bne_true, reduceIte, Bool.true_bne, Bool.false_bne, and_true, true_and, fnW, gPut, ownA, roomPV, putPV, IL.keyOf, hk1, hv1]
        exact ⟨room, hK _ ⟨gs', _, _, _, _, by omega, rfl⟩⟩
      | some y =>
        have := look_G (m, ws) hl2
        have this : y = gPV m ws := this
        subst this
        try simp only [sSeq, sNext, sRet, sRetN, sRetV, sSet, sIf, sDrop, sTgt, sPar, sNever, wTmps, setAll, sFor, gNm, IL.gTup, gEach, tTrue, tTru, tOf, tNotW, tAndW, tOrW, oAnd, oOr, oNotT, oIf, oChain, oTup, oLst, wArgs, oPrim, withOps, evOps, Opd.ev, oC, oVar, oSl, partEv, oMeth, isStrPV, oComp, oComp2, iSeq, iRange1, iRange2, rgW, oDict0, lift1, lift2, Opr.rd, rdAll, e_rl, Option.map_some, Option.map_none, e_pv, e_po, e_tb, e_ti, e_tn, e_tl, e_tt, e_add, e_addS, e_addL, e_addT, e_sub, e_mul, e_mod, e_fdiv, e_pow, e_neg, e_lt, e_le, e_gt, e_ge, e_eqI, e_lenT, e_lenL, e_lenS, e_lenR, e_tupL, e_tupT, e_intI, e_isiI, e_isiIB, e_isiT, e_isiS, e_isN, e_isI, e_isS, e_isT, e_sqT, e_sqL, e_sqS, wipeE, IL.envOf, List.map_cons, List.map_nil, List.length_cons, List.length_nil, Nat.zero_add, Nat.reduceSub, Nat.reduceAdd, List.replicate, List.cons_append, List.nil_append, List.set_cons_zero, List.set_cons_succ, List.getElem?_cons_zero, List.getElem?_cons_succ, List.getElem?_nil, restE, Option.join, Option.bind_some, Option.bind_none, id_eq, if_true, if_false, Bool.false_eq_true, Bool.not_true, Bool.not_false, Bool.bne_false, Bool.bne_true, reduceIte, Bool.true_bne, Bool.false_bne, and_true, true_and, fnW]
        refine pEq_self (okD_g m ws) ?_
        simp only [sSeq, sNext, sRet, sRetN, sRetV, sSet, sIf, sDrop, sTgt, sPar, sNever, wTmps, setAll, sFor, gNm, IL.gTup, gEach, tTrue, tTru, tOf, tNotW, tAndW, tOrW, oAnd, oOr, oNotT, oIf, oChain, oTup, oLst, wArgs, oPrim, withOps, evOps, Opd.ev, oC, oVar, oSl, partEv, oMeth, isStrPV, oComp, oComp2, iSeq, iRange1, iRange2, rgW, oDict0, lift1, lift2, Opr.rd, rdAll, e_rl, Option.map_some, Option.map_none, e_pv, e_po, e_tb, e_ti, e_tn, e_tl, e_tt, e_add, e_addS, e_addL, e_addT, e_sub, e_mul, e_mod, e_fdiv, e_pow, e_neg, e_lt, e_le, e_gt, e_ge, e_eqI, e_lenT, e_lenL, e_lenS, e_lenR, e_tupL, e_tupT, e_intI, e_isiI, e_isiIB, e_isiT, e_isiS, e_isN, e_isI, e_isS, e_isT, e_sqT, e_sqL, e_sqS, wipeE, IL.envOf, List.map_cons, List.map_nil, List.length_cons, List.length_nil, Nat.zero_add, Nat.reduceSub, Nat.reduceAdd, List.replicate, List.cons_append, List.nil_append, List.set_cons_zero, List.set_cons_succ, List.getElem?_cons_zero, List.getElem?_cons_succ, List.getElem?_nil, restE, Option.join, Option.bind_some, Option.bind_none, id_eq, if_true, if_false, Bool.false_eq_true, Bool.not_true, Bool.not_false, Bool.bne_false, Bool.bne_true, reduceIte, Bool.true_bne, Bool.false_bne, and_true, true_and, fnW, gPut, ownA, roomPV, putPV, IL.keyOf, hk1, hv1]
        exact ⟨room, hK _ ⟨gs', _, _, _, _, by omega, rfl⟩⟩
  simp only [sSeq, sNext, sRet, sRetN, sRetV, sSet, sIf, sDrop, sTgt, sPar, sNever, wTmps, setAll, sFor, gNm, IL.gTup, gEach, tTrue, tTru, tOf, tNotW, tAndW, tOrW, oAnd, oOr, oNotT, oIf, oChain, oTup, oLst, wArgs, oPrim, withOps, evOps, Opd.ev, oC, oVar, oSl, partEv, oMeth, isStrPV, oComp, oComp2, iSeq, iRange1, iRange2, rgW, oDict0, lift1, lift2, Opr.rd, rdAll, e_rl, Option.map_some, Option.map_none, e_pv, e_po, e_tb, e_ti, e_tn, e_tl, e_tt, e_add, e_addS, e_addL, e_addT, e_sub, e_mul, e_mod, e_fdiv, e_pow, e_neg, e_lt, e_le, e_gt, e_ge, e_eqI, e_lenT, e_lenL, e_lenS, e_lenR, e_tupL, e_tupT, e_intI, e_isiI, e_isiIB, e_isiT, e_isiS, e_isN, e_isI, e_isS, e_isT, e_sqT, e_sqL, e_sqS, wipeE, IL.envOf, List.map_cons, List.map_nil, List.length_cons, List.length_nil, Nat.zero_add, Nat.reduceSub, Nat.reduceAdd, List.replicate, List.cons_append, List.nil_append, List.set_cons_zero, List.set_cons_succ, List.getElem?_cons_zero, List.getElem?_cons_succ, List.getElem?_nil, restE, Option.join, Option.bind_some, Option.bind_none, id_eq, if_true, if_false, Bool.false_eq_true, Bool.not_true, Bool.not_false, Bool.bne_false, Bool.bne_true, reduceIte, Bool.true_bne, Bool.false_bne, and_true, true_and, fnW, oCall]
  refine i_games_text (m := 1) (ws := []) (good0 (by omega) (by omega)) ?_
  try simp only [sSeq, sNext, sRet, sRetN, sRetV, sSet, sIf, sDrop, sTgt, sPar, sNever, wTmps, setAll, sFor, gNm, IL.gTup, gEach, tTrue, tTru, tOf, tNotW, tAndW, tOrW, oAnd, oOr, oNotT, oIf, oChain, oTup, oLst, wArgs, oPrim, withOps, evOps, Opd.ev, oC, oVar, oSl, partEv, oMeth, isStrPV, oComp, oComp2, iSeq, iRange1, iRange2, rgW, oDict0, lift1, lift2, Opr.rd, rdAll, e_rl, Option.map_some, Option.map_none, e_pv, e_po, e_tb, e_ti, e_tn, e_tl, e_tt, e_add, e_addS, e_addL, e_addT, e_sub, e_mul, e_mod, e_fdiv, e_pow, e_neg, e_lt, e_le, e_gt, e_ge, e_eqI, e_lenT, e_lenL, e_lenS, e_lenR, e_tupL, e_tupT, e_intI, e_isiI, e_isiIB, e_isiT, e_isiS, e_isN, e_isI, e_isS, e_isT, e_sqT, e_sqL, e_sqS, wipeE, IL.envOf, List.map_cons, List.map_nil, List.length_cons, List.length_nil, Nat.zero_add, Nat.reduceSub, Nat.reduceAdd, List.replicate, List.cons_append, List.nil_append, List.set_cons_zero, List.set_cons_succ, List.getElem?_cons_zero, List.getElem?_cons_succ, List.getElem?_nil, restE, Option.join, Option.bind_some, Option.bind_none, id_eq, if_true, if_false, Bool.false_eq_true, Bool.not_true, Bool.not_false, Bool.bne_false, Bool.bne_true, reduceIte, Bool.true_bne, Bool.false_bne, and_true, true_and, fnW]
  rw [txt8, txt7]
  refine i_read_games (m := 8) (ws := []) (good0 (by omega) (by omega)) ?_
  try simp only [sSeq, sNext, sRet, sRetN, sRetV, sSet, sIf, sDrop, sTgt, sPar, sNever, wTmps, setAll, sFor, gNm, IL.gTup, gEach, tTrue, tTru, tOf, tNotW, tAndW, tOrW, oAnd, oOr, oNotT, oIf, oChain, oTup, oLst, wArgs, oPrim, withOps, evOps, Opd.ev, oC, oVar, oSl, partEv, oMeth, isStrPV, oComp, oComp2, iSeq, iRange1, iRange2, rgW, oDict0, lift1, lift2, Opr.rd, rdAll, e_rl, Option.map_some, Option.map_none, e_pv, e_po, e_tb, e_ti, e_tn, e_tl, e_tt, e_add, e_addS, e_addL, e_addT, e_sub, e_mul, e_mod, e_fdiv, e_pow, e_neg, e_lt, e_le, e_gt, e_ge, e_eqI, e_lenT, e_lenL, e_lenS, e_lenR, e_tupL, e_tupT, e_intI, e_isiI, e_isiIB, e_isiT, e_isiS, e_isN, e_isI, e_isS, e_isT, e_sqT, e_sqL, e_sqS, wipeE, IL.envOf, List.map_cons, List.map_nil, List.length_cons, List.length_nil, Nat.zero_add, Nat.reduceSub, Nat.reduceAdd, List.replicate, List.cons_append, List.nil_append, List.set_cons_zero, List.set_cons_succ, List.getElem?_cons_zero, List.getElem?_cons_succ, List.getElem?_nil, restE, Option.join, Option.bind_some, Option.bind_none, id_eq, if_true, if_false, Bool.false_eq_true, Bool.not_true, Bool.not_false, Bool.bne_false, Bool.bne_true, reduceIte, Bool.true_bne, Bool.false_bne, and_true, true_and, fnW]
  refine i_list_text (ns := [0]) (by intro n hn; rw [List.mem_singleton.mp hn]; exact small_b (by omega)) (by simp) (by simp) ?_
  try simp only [sSeq, sNext, sRet, sRetN, sRetV, sSet, sIf, sDrop, sTgt, sPar, sNever, wTmps, setAll, sFor, gNm, IL.gTup, gEach, tTrue, tTru, tOf, tNotW, tAndW, tOrW, oAnd, oOr, oNotT, oIf, oChain, oTup, oLst, wArgs, oPrim, withOps, evOps, Opd.ev, oC, oVar, oSl, partEv, oMeth, isStrPV, oComp, oComp2, iSeq, iRange1, iRange2, rgW, oDict0, lift1, lift2, Opr.rd, rdAll, e_rl, Option.map_some, Option.map_none, e_pv, e_po, e_tb, e_ti, e_tn, e_tl, e_tt, e_add, e_addS, e_addL, e_addT, e_sub, e_mul, e_mod, e_fdiv, e_pow, e_neg, e_lt, e_le, e_gt, e_ge, e_eqI, e_lenT, e_lenL, e_lenS, e_lenR, e_tupL, e_tupT, e_intI, e_isiI, e_isiIB, e_isiT, e_isiS, e_isN, e_isI, e_isS, e_isT, e_sqT, e_sqL, e_sqS, wipeE, IL.envOf, List.map_cons, List.map_nil, List.length_cons, List.length_nil, Nat.zero_add, Nat.reduceSub, Nat.reduceAdd, List.replicate, List.cons_append, List.nil_append, List.set_cons_zero, List.set_cons_succ, List.getElem?_cons_zero, List.getElem?_cons_succ, List.getElem?_nil, restE, Option.join, Option.bind_some, Option.bind_none, id_eq, if_true, if_false, Bool.false_eq_true, Bool.not_true, Bool.not_false, Bool.bne_false, Bool.bne_true, reduceIte, Bool.true_bne, Bool.false_bne, and_true, true_and, fnW]
  refine i_read_list (ns := [7]) (by intro n hn; rw [List.mem_singleton.mp hn]; exact small_b (by omega)) (by simp) (by simp) ?_
  try simp only [sSeq, sNext, sRet, sRetN, sRetV, sSet, sIf, sDrop, sTgt, sPar, sNever, wTmps, setAll, sFor, gNm, IL.gTup, gEach, tTrue, tTru, tOf, tNotW, tAndW, tOrW, oAnd, oOr, oNotT, oIf, oChain, oTup, oLst, wArgs, oPrim, withOps, evOps, Opd.ev, oC, oVar, oSl, partEv, oMeth, isStrPV, oComp, oComp2, iSeq, iRange1, iRange2, rgW, oDict0, lift1, lift2, Opr.rd, rdAll, e_rl, Option.map_some, Option.map_none, e_pv, e_po, e_tb, e_ti, e_tn, e_tl, e_tt, e_add, e_addS, e_addL, e_addT, e_sub, e_mul, e_mod, e_fdiv, e_pow, e_neg, e_lt, e_le, e_gt, e_ge, e_eqI, e_lenT, e_lenL, e_lenS, e_lenR, e_tupL, e_tupT, e_intI, e_isiI, e_isiIB, e_isiT, e_isiS, e_isN, e_isI, e_isS, e_isT, e_sqT, e_sqL, e_sqS, wipeE, IL.envOf, List.map_cons, List.map_nil, List.length_cons, List.length_nil, Nat.zero_add, Nat.reduceSub, Nat.reduceAdd, List.replicate, List.cons_append, List.nil_append, List.set_cons_zero, List.set_cons_succ, List.getElem?_cons_zero, List.getElem?_cons_succ, List.getElem?_nil, restE, Option.join, Option.bind_some, Option.bind_none, id_eq, if_true, if_false, Bool.false_eq_true, Bool.not_true, Bool.not_false, Bool.bne_false, Bool.bne_true, reduceIte, Bool.true_bne, Bool.false_bne, and_true, true_and, fnW]
  rw [txt1, txt0]
  refine i_same8 (n := 4) (.lst (by simp) fun x hx => ?_) (by omega) h
  simp only [TV.pv, List.mem_cons, List.not_mem_nil, or_false] at hx
  rcases hx with rfl | rfl | rfl | rfl
  · rw [← txt1]; exact .str 3 strOk_g
  · exact ds_g (by simp)
  · rw [← txt0]; exact .str 3 strOk_l
  · exact (ds_nums (ns := [7]) (by simp)).mono (by omega)
theorem law_true (ns : List Int) (h : ns.length ≤ 63) : F_law [.scr ns] fun tv => tv = .v (.bl true) := by
  unfold F_law b_law
  simp only [sSeq, sNext, sRet, sRetN, sRetV, sSet, sIf, sDrop, sTgt, sPar, sNever, wTmps, setAll, sFor, gNm, IL.gTup, gEach, tTrue, tTru, tOf, tNotW, tAndW, tOrW, oAnd, oOr, oNotT, oIf, oChain, oTup, oLst, wArgs, oPrim, withOps, evOps, Opd.ev, oC, oVar, oSl, partEv, oMeth, isStrPV, oComp, oComp2, iSeq, iRange1, iRange2, rgW, oDict0, lift1, lift2, Opr.rd, rdAll, e_rl, Option.map_some, Option.map_none, e_pv, e_po, e_tb, e_ti, e_tn, e_tl, e_tt, e_add, e_addS, e_addL, e_addT, e_sub, e_mul, e_mod, e_fdiv, e_pow, e_neg, e_lt, e_le, e_gt, e_ge, e_eqI, e_lenT, e_lenL, e_lenS, e_lenR, e_tupL, e_tupT, e_intI, e_isiI, e_isiIB, e_isiT, e_isiS, e_isN, e_isI, e_isS, e_isT, e_sqT, e_sqL, e_sqS, wipeE, IL.envOf, List.map_cons, List.map_nil, List.length_cons, List.length_nil, Nat.zero_add, Nat.reduceSub, Nat.reduceAdd, List.replicate, List.cons_append, List.nil_append, List.set_cons_zero, List.set_cons_succ, List.getElem?_cons_zero, List.getElem?_cons_succ, List.getElem?_nil, restE, Option.join, Option.bind_some, Option.bind_none, id_eq, if_true, if_false, Bool.false_eq_true, Bool.not_true, Bool.not_false, Bool.bne_false, Bool.bne_true, reduceIte, Bool.true_bne, Bool.false_bne, and_true, true_and, fnW, pMin]
  have key : ∀ j : Int, 0 ≤ j → j ≤ 3 → (-2 ^ 62 ≤ j ∧ j < 2 ^ 62) ∧
          (rangePV 0 j.toNat).length ≤ sizeLine ∧
            noOwn [some (TV.v (PV.scr ns)), none] [1] = true ∧
              wComp [1] (gNm 1) tTrue (oCall 1 F__law_right [oCall 2 S__law_well [oVar 0, oVar 1]]) (rangePV 0 j.toNat)
                [] [some (TV.v (PV.scr ns)), none] fun acc e2 => pAll (PV.lst acc) fun tv => tv = TV.v (PV.bl true) := by
    intro j j0 j3
    refine ⟨⟨by omega, by omega⟩, size_le (by rw [rangePV_len]; omega), rfl, ?_⟩
    refine wComp_map (fun _ => .bl true) (fun x hx K acc hk => ?_) ?_
    · obtain ⟨i, hi, rfl⟩ := rangePV_mem hx
      simp only [sSeq, sNext, sRet, sRetN, sRetV, sSet, sIf, sDrop, sTgt, sPar, sNever, wTmps, setAll, sFor, gNm, IL.gTup, gEach, tTrue, tTru, tOf, tNotW, tAndW, tOrW, oAnd, oOr, oNotT, oIf, oChain, oTup, oLst, wArgs, oPrim, withOps, evOps, Opd.ev, oC, oVar, oSl, partEv, oMeth, isStrPV, oComp, oComp2, iSeq, iRange1, iRange2, rgW, oDict0, lift1, lift2, Opr.rd, rdAll, e_rl, Option.map_some, Option.map_none, e_pv, e_po, e_tb, e_ti, e_tn, e_tl, e_tt, e_add, e_addS, e_addL, e_addT, e_sub, e_mul, e_mod, e_fdiv, e_pow, e_neg, e_lt, e_le, e_gt, e_ge, e_eqI, e_lenT, e_lenL, e_lenS, e_lenR, e_tupL, e_tupT, e_intI, e_isiI, e_isiIB, e_isiT, e_isiS, e_isN, e_isI, e_isS, e_isT, e_sqT, e_sqL, e_sqS, wipeE, IL.envOf, List.map_cons, List.map_nil, List.length_cons, List.length_nil, Nat.zero_add, Nat.reduceSub, Nat.reduceAdd, List.replicate, List.cons_append, List.nil_append, List.set_cons_zero, List.set_cons_succ, List.getElem?_cons_zero, List.getElem?_cons_succ, List.getElem?_nil, restE, Option.join, Option.bind_some, Option.bind_none, id_eq, if_true, if_false, Bool.false_eq_true, Bool.not_true, Bool.not_false, Bool.bne_false, Bool.bne_true, reduceIte, Bool.true_bne, Bool.false_bne, and_true, true_and, fnW, oCall]
      refine i_law_well (by omega) h ?_
      try simp only [sSeq, sNext, sRet, sRetN, sRetV, sSet, sIf, sDrop, sTgt, sPar, sNever, wTmps, setAll, sFor, gNm, IL.gTup, gEach, tTrue, tTru, tOf, tNotW, tAndW, tOrW, oAnd, oOr, oNotT, oIf, oChain, oTup, oLst, wArgs, oPrim, withOps, evOps, Opd.ev, oC, oVar, oSl, partEv, oMeth, isStrPV, oComp, oComp2, iSeq, iRange1, iRange2, rgW, oDict0, lift1, lift2, Opr.rd, rdAll, e_rl, Option.map_some, Option.map_none, e_pv, e_po, e_tb, e_ti, e_tn, e_tl, e_tt, e_add, e_addS, e_addL, e_addT, e_sub, e_mul, e_mod, e_fdiv, e_pow, e_neg, e_lt, e_le, e_gt, e_ge, e_eqI, e_lenT, e_lenL, e_lenS, e_lenR, e_tupL, e_tupT, e_intI, e_isiI, e_isiIB, e_isiT, e_isiS, e_isN, e_isI, e_isS, e_isT, e_sqT, e_sqL, e_sqS, wipeE, IL.envOf, List.map_cons, List.map_nil, List.length_cons, List.length_nil, Nat.zero_add, Nat.reduceSub, Nat.reduceAdd, List.replicate, List.cons_append, List.nil_append, List.set_cons_zero, List.set_cons_succ, List.getElem?_cons_zero, List.getElem?_cons_succ, List.getElem?_nil, restE, Option.join, Option.bind_some, Option.bind_none, id_eq, if_true, if_false, Bool.false_eq_true, Bool.not_true, Bool.not_false, Bool.bne_false, Bool.bne_true, reduceIte, Bool.true_bne, Bool.false_bne, and_true, true_and, fnW]
      refine i_law_right ?_
      exact hk
    · refine pAll_true (fun x hx => ?_) rfl
      rw [List.nil_append] at hx
      obtain ⟨_, _, rfl⟩ := List.mem_map.mp hx
      rfl
  refine key _ ?_ ?_
  · split <;> split at * <;> omega
  · split <;> split at * <;> omega
end ILaw

namespace ILaw
open PySem PySem.Spec PyProof.Rows L2 IL
abbrev Rw : PySem.W.OpenRow := PySem.W.OpenLaw.row PySem.Challenge.rw_eachagainst_k80_whole_texts_of_games_and
abbrev hk : PySem.W.Hook := He.hookD 4 faL fnL
def lsL : List PySem.Str := (["GameError", "NotGames", "InvalidText", "InvalidNumbers", "is_whole", "is_between", "is_number", "is_tuple_of", "are_rising", "first_wrong", "MOST_PLAYERS", "MANY", "WINS", "is_win", "are_wins", "are_games_by", "players_of", "points_by", "check_games", "check_numbers", "FIGURES", "BLANK", "END", "PLAYERS_WORD", "BEAT_WORD", "is_figures", "numbers_in", "text_of_numbers", "list_with_text", "text_of_games"] : List PySem.Str) ++ (["win_in", "many_in", "games_with_text", "games_text", "read_games", "list_text", "read_list", "points", "_law_well", "_law_take", "_law_same", "_law_pairs", "_law_games", "_law_results", "_law_points", "_law_is_up_to", "_law_are_games", "_law_figures", "_law_read_games", "_law_games_text", "_law_list_text", "_law_is_told", "_law_right"] : List PySem.Str)
def ob (s : PySem.W.SharedT) : He.AlD := He.obsDG 4 faL fnL (HandSHeadRun.getT s)
theorem ob_eq (s : PySem.W.SharedT) : ob s = hk.obs s.abs := He.obsDG_eq (HandSHeadRun.getT_eq s)
theorem run (w : World) : HandSHeadRun.RunEq Rw (PySem.W.view Rw.prog [61]) hk ob 3000 lsL w := by
  intro os
  kernel_rfl
end ILaw
namespace ILaw
open PySem PySem.Spec PyProof.Rows L2 IL
theorem fin {w : World} {K : PySem.W.Frag} {h : Heap} {mg : Str → Option Value} {fa : Addr} (X : K.In h) (N : h.Ns mainGlobals mg) (hfa : mg ("law" : Str) = some (.ref fa)) (c : He.SaysD faL fnL K) :
    ∃ (K : PySem.W.Frag) (fd : FuncData) (sp : Sp), K.In h ∧ (∀ (s : Shared) (u : Value), BindsTo s fd ⟨[u], []⟩ [("script", u)]) ∧
        (∀ (H : Hp) (a : Addr) (ns : List Int), ns.length ≤ 63 → Only H → SqL K H a (ns.map V.int) → sp [.ref a] H (fun v _ => v = .bl true) fun _ _ _ => False) ∧
        ∀ base : Heap, K.In base → base.Ns mainGlobals mg → FnOk (PySem.Challenge.rw_eachagainst_k80_whole_texts_of_games_and).prog w K mg base CX0 11 fa fd ["script"] sp := by
  have z : Fx ⟨K, mg⟩ := fx_of X N c
  have e := hfa.symm.trans z.g_law
  cases e
  obtain ⟨fd, F⟩ := z.d_law
  refine ⟨K, fd, spOf ⟨K, mg⟩ 1 F_law, X, fun s u => FunD.bindsA (ps := ["script"]) F (fun _ _ _ _ _ _ us hl => match us, hl with | [_], _ => rfl) s [u] rfl, fun H a ns hl hO hS => ?_, fun base _ _ => fn_ok F facts_law fun Y c' s => bd_law (P := (PySem.Challenge.rw_eachagainst_k80_whole_texts_of_games_and).prog) (w := w) (base := base) z Y ⟨⟨c'.ok, c'.fn, c'.N, c'.sc⟩, s⟩⟩
  exact law_run hO hS (law_true ns hl)
end ILaw
theorem PySem.Challenge.cw_eachagainst_k80_whole_texts_of_games_and_holds : PySem.Challenge.rw_eachagainst_k80_whole_texts_of_games_and.Holds := by
  w_on; o_law
  refine HandSHeadRun.head_any (r := PySem.W.OpenLaw.row PySem.Challenge.rw_eachagainst_k80_whole_texts_of_games_and) (q := PySem.W.view (PySem.W.OpenLaw.row PySem.Challenge.rw_eachagainst_k80_whole_texts_of_games_and).prog [61]) (H := ILaw.hk) (ob := ILaw.ob) (M := 3000) (loose := ILaw.lsL) (d := HandSHeadRun.topDef (PySem.W.OpenLaw.row PySem.Challenge.rw_eachagainst_k80_whole_texts_of_games_and).prog 61) (kwd := []) ILaw.ob_eq
    (by kernel_rfl) (fun s => by kernel_rfl) ILaw.run (by kernel_rfl) (by kernel_rfl) (by kernel_rfl) (by rfl) (by first | assumption | decide +kernel) (by decide +kernel) ⟨rfl, rfl, rfl, rfl, rfl, by decide +kernel⟩ ?hw ?hc
  case hw => w_witness2
  case hc =>
    refine L2.walk_ofE (l := PySem.Challenge.rw_eachagainst_k80_whole_texts_of_games_and) (n := 63) (k := 11) (x := "script") (CX := L2.CX0) rfl (by decide) (by kernel_rfl) ⟨rfl, by decide, by decide⟩ ?F (fun _ _ _ _ z => z)
    intro w mg fa h Y N hmg0
    obtain ⟨K, KX, c⟩ := Y
    have hmg : mg ("law" : PySem.Str) = some (.ref fa) := by
      have e : (HandSHeadRun.topDef (PySem.W.OpenLaw.row PySem.Challenge.rw_eachagainst_k80_whole_texts_of_games_and).prog 61).name = ("law" : PySem.Str) := by kernel_rfl
      rw [← e]
      exact hmg0
    exact ILaw.fin KX N hmg c

