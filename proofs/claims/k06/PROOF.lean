import PyProof.Rows.All
import Wide.All
import OpenK.AllK
import Wide.FinOn
import HandS.ForMost
import HandS.IsInst
import HandS.TupAny
import HandS.Style
import HandS.SortInts
import HandS.Zip
import HandS.Conv
import HandS.MakeKw
import HandS.Text
import PySem.Challenge.RW_rightspan_k06_what_are_papers
set_option Elab.async false
set_option linter.all false
set_option maxRecDepth 100000
set_option maxHeartbeats 4000000
/-! Pw1: pure data over the heap: what a value stands for, who owns a list. -/
namespace Pw
open PySem PySem.Spec PyProof.Rows L2

/-- holds a term still -/
structure Tk {α : Type _} (a : α) : Type where
abbrev PD := PyData
abbrev St := L2.St

mutual
inductive Rp (K : PySem.W.Frag) (F : Hp) : V → PD → Prop
  | non : Rp K F .non .none
  | bl (b : Bool) : Rp K F (.bl b) (.bool b)
  | int (i : Int) : Rp K F (.int i) (.int i)
  | str (x : Str) : Rp K F (.str x) (.str x)
  | lst {a : Addr} {vs : List V} {ds : List PD} : F a = some (.lst vs) → RpA K F vs ds → Rp K F (.ref a) (.list ds)
  | tup {a : Addr} {vs : List V} {ds : List PD} : SqT K F a vs → RpA K F vs ds → Rp K F (.ref a) (.tuple ds)
inductive RpA (K : PySem.W.Frag) (F : Hp) : List V → List PD → Prop
  | nil : RpA K F [] []
  | cons {v : V} {vs : List V} {d : PD} {ds : List PD} : Rp K F v d → RpA K F vs ds → RpA K F (v :: vs) (d :: ds)
end

theorem same_tup {K : PySem.W.Frag} {H H' : Hp} {a : Addr} {xs : List V} (e : Same H H') (h : SqT K H a xs) : SqT K H' a xs := by
  rcases h with (h | ⟨o, h⟩) | h
  · exact .inl (.inl (e _ _ h))
  · exact .inl (.inr ⟨o, e _ _ h⟩)
  · exact .inr h
theorem same_new {H : Hp} {p : Addr} {o : HO} (h : H p = none) : Same H (upd H p o) := fun b x e => by
  rw [upd_ne (ne_of_none e h)]; exact e
mutual
theorem Rp.mono {K : PySem.W.Frag} {F F' : Hp} (e : Same F F') : ∀ {v : V} {d : PD}, Rp K F v d → Rp K F' v d
  | _, _, .non => .non
  | _, _, .bl b => .bl b
  | _, _, .int i => .int i
  | _, _, .str x => .str x
  | _, _, .lst h r => .lst (e _ _ h) (RpA.mono e r)
  | _, _, .tup h r => .tup (same_tup e h) (RpA.mono e r)
theorem RpA.mono {K : PySem.W.Frag} {F F' : Hp} (e : Same F F') : ∀ {vs : List V} {ds : List PD}, RpA K F vs ds → RpA K F' vs ds
  | _, _, .nil => .nil
  | _, _, .cons h r => .cons (Rp.mono e h) (RpA.mono e r)
end
mutual
theorem Rp.dp {K : PySem.W.Frag} {F H : Hp} (e : Same F H) : ∀ {v : V} {d : PD}, Rp K F v d → Dp K H v d
  | _, _, .non => .non
  | _, _, .bl b => .bl b
  | _, _, .int i => .int i
  | _, _, .str x => .str x
  | _, _, .lst h r => .lst (SqL.of (e _ _ h)) (RpA.dp e r)
  | _, _, .tup h r => .tup (same_tup e h) (RpA.dp e r)
theorem RpA.dp {K : PySem.W.Frag} {F H : Hp} (e : Same F H) : ∀ {vs : List V} {ds : List PD}, RpA K F vs ds → DpAll K H vs ds
  | _, _, .nil => .nil
  | _, _, .cons h r => .cons (Rp.dp e h) (RpA.dp e r)
end
theorem RpA.len {K : PySem.W.Frag} {F : Hp} : ∀ {vs : List V} {ds : List PD}, RpA K F vs ds → vs.length = ds.length
  | _, _, .nil => rfl
  | _, _, .cons _ r => congrArg (· + 1) r.len
theorem RpA.app {K : PySem.W.Frag} {F : Hp} : ∀ {vs ws : List V} {ds es : List PD}, RpA K F vs ds → RpA K F ws es → RpA K F (vs ++ ws) (ds ++ es)
  | _, _, _, _, .nil, s => s
  | _, _, _, _, .cons h r, s => .cons h (r.app s)
theorem RpA.get {K : PySem.W.Frag} {F : Hp} : ∀ {vs : List V} {ds : List PD} {i : Nat} {d : PD}, RpA K F vs ds → ds[i]? = some d → ∃ v, vs[i]? = some v ∧ Rp K F v d
  | _, _, _, _, .nil, e => by simp at e
  | _, _, 0, _, .cons h _, e => by simp at e; subst e; exact ⟨_, rfl, h⟩
  | _, _, i + 1, d, .cons _ r, e => by
    obtain ⟨v, h1, h2⟩ := RpA.get (i := i) (d := d) r (by simpa using e)
    exact ⟨v, by simpa using h1, h2⟩
theorem RpA.getV {K : PySem.W.Frag} {F : Hp} : ∀ {vs : List V} {ds : List PD} {i : Nat} {v : V}, RpA K F vs ds → vs[i]? = some v → ∃ d, ds[i]? = some d ∧ Rp K F v d
  | _, _, _, _, .nil, e => by simp at e
  | _, _, 0, _, .cons h _, e => by simp at e; subst e; exact ⟨_, rfl, h⟩
  | _, _, i + 1, d, .cons _ r, e => by
    obtain ⟨v, h1, h2⟩ := RpA.getV (i := i) (v := d) r (by simpa using e)
    exact ⟨v, by simpa using h1, h2⟩
theorem RpA.set {K : PySem.W.Frag} {F : Hp} {v : V} {d : PD} (h : Rp K F v d) : ∀ {vs : List V} {ds : List PD} (i : Nat), RpA K F vs ds → RpA K F (vs.set i v) (ds.set i d)
  | _, _, _, .nil => .nil
  | _, _, 0, .cons _ r => .cons h r
  | _, _, i + 1, .cons q r => .cons q (RpA.set h i r)
theorem RpA.take {K : PySem.W.Frag} {F : Hp} : ∀ {vs : List V} {ds : List PD} (n : Nat), RpA K F vs ds → RpA K F (vs.take n) (ds.take n)
  | _, _, 0, _ => .nil
  | _, _, _ + 1, .nil => .nil
  | _, _, n + 1, .cons h r => .cons h (RpA.take n r)
theorem RpA.drop {K : PySem.W.Frag} {F : Hp} : ∀ {vs : List V} {ds : List PD} (n : Nat), RpA K F vs ds → RpA K F (vs.drop n) (ds.drop n)
  | _, _, 0, r => r
  | _, _, _ + 1, .nil => .nil
  | _, _, n + 1, .cons _ r => RpA.drop n r
theorem RpA.ints {K : PySem.W.Frag} {F : Hp} : ∀ {vs : List V} {ns : List Int}, RpA K F vs (ns.map .int) → vs = ns.map V.int
  | _, [], .nil => rfl
  | _, _ :: _, .cons h r => by cases h; rw [RpA.ints r]; rfl
theorem RpA.ofInts {K : PySem.W.Frag} {F : Hp} : ∀ (ns : List Int), RpA K F (ns.map V.int) (ns.map .int)
  | [] => .nil
  | n :: r => .cons (.int n) (RpA.ofInts r)
theorem RpA.bls {K : PySem.W.Frag} {F : Hp} : ∀ {vs : List V} {ns : List Bool}, RpA K F vs (ns.map .bool) → vs = ns.map V.bl
  | _, [], .nil => rfl
  | _, _ :: _, .cons h r => by cases h; rw [RpA.bls r]; rfl
theorem RpA.strs {K : PySem.W.Frag} {F : Hp} : ∀ {vs : List V} {ns : List Str}, RpA K F vs (ns.map .str) → vs = ns.map V.str
  | _, [], .nil => rfl
  | _, _ :: _, .cons h r => by cases h; rw [RpA.strs r]; rfl
theorem RpA.ofStrs {K : PySem.W.Frag} {F : Hp} : ∀ (ns : List Str), RpA K F (ns.map V.str) (ns.map .str)
  | [] => .nil
  | n :: r => .cons (.str n) (RpA.ofStrs r)

/-! ### held values -/
/-- what an expression gives: plain data; a list of one's own; a list just looked at; a bag of draws; the script; a built-in class -/
inductive W where
  | val (d : PD) | own (ds : List PD) | bor (ds : List PD) | bag (k : Nat) | scr (ns : List Int) | ty (n : String)
abbrev Env := List (Option W)
abbrev Holder := Nat ⊕ Nat
structure Gh where
  F : Hp
  bs : List Addr
  O : Addr → Option Holder
def W.frz : W → W
  | .own ds => .val (.list ds)
  | .bor ds => .val (.list ds)
  | w => w
/-- the items of a list-like thing -/
def W.seq : W → Option (List PD)
  | .val (.list ds) => some ds
  | .own ds => some ds
  | .bor ds => some ds
  | _ => none
/-- of a list or a tuple -/
def W.its : W → Option (List PD)
  | .val (.list ds) => some ds
  | .val (.tuple ds) => some ds
  | .own ds => some ds
  | .bor ds => some ds
  | _ => none
def W.pd : W → Option PD
  | .val d => some d
  | .own ds => some (.list ds)
  | .bor ds => some (.list ds)
  | _ => none

def BagAt (H : Hp) (a : Addr) : Prop := ∃ x y : Int, H a = some (.lst [.int x, .int y]) ∧ 0 ≤ x ∧ 0 ≤ y ∧ y < 2147483648

def WR (K : PySem.W.Frag) (H0 : Hp) (G : Gh) (H : Hp) (h : Holder) (v : V) : W → Prop
  | .val d => Rp K G.F v d
  | .own ds => ∃ a vs, v = .ref a ∧ G.O a = some h ∧ H a = some (.lst vs) ∧ G.F a = none ∧ H0 a = none ∧ RpA K G.F vs ds
  | .bor ds => ∃ a vs i, v = .ref a ∧ G.O a = some (.inl i) ∧ H a = some (.lst vs) ∧ RpA K G.F vs ds
  | .bag k => ∃ a, v = .ref a ∧ G.bs[k]? = some a
  | .scr ns => ∃ a, v = .ref a ∧ SqL K G.F a (ns.map V.int)
  | .ty n => v = .ty n
def TsOk (K : PySem.W.Frag) (H0 : Hp) (G : Gh) (H : Hp) : List (V × W) → Prop
  | [] => True
  | p :: ts => WR K H0 G H (.inr ts.length) p.1 p.2 ∧ TsOk K H0 G H ts

structure Ok (K : PySem.W.Frag) (H0 F0 : Hp) (bs0 : List Addr) (env : Env) (ts : List (V × W)) (σ : St) (G : Gh) (H : Hp) : Prop where
  len : env.length = σ.length
  sub : Same G.F H
  ext : ∀ a o, a ∉ bs0 → H0 a = some o → H a = some o
  f0 : Same F0 G.F
  fnew : ∀ a o, G.F a = some o → F0 a = none → H0 a = none
  bpre : ∃ l, G.bs = bs0 ++ l
  bok : ∀ a ∈ G.bs, BagAt H a ∧ G.F a = none ∧ G.O a = none ∧ (a ∈ bs0 ∨ H0 a = none)
  ow : ∀ a h, G.O a = some h → ∃ o, H a = some o
  slots : ∀ i w, env[i]? = some (some w) → (∀ ds, w ≠ .bor ds) ∧ ∃ v, σ[i]? = some (some v) ∧ WR K H0 G H (.inl i) v w
  temps : TsOk K H0 G H ts

section
variable {K : PySem.W.Frag} {H0 F0 H H' : Hp} {bs0 : List Addr} {env : Env} {ts : List (V × W)} {σ : St} {G G' : Gh} {v : V} {w : W} {h : Holder}

structure Fro (G : Gh) (H : Hp) (G' : Gh) (H' : Hp) : Prop where
  F : Same G.F G'.F
  bs : ∃ l, G'.bs = G.bs ++ l
  O : ∀ a h, G.O a = some h → G'.O a = some h
  H : ∀ a h o, G.O a = some h → H a = some o → H' a = some o
theorem WR.keep (f : Fro G H G' H') (hN : ∀ a, G.O a = some h → G.F a = none → G'.F a = none) (x : WR K H0 G H h v w) : WR K H0 G' H' h v w := by
  cases w with
  | val d => exact Rp.mono f.F x
  | own ds =>
    obtain ⟨a, vs, e, o, ha, fa, h0, r⟩ := x
    exact ⟨a, vs, e, f.O _ _ o, f.H _ _ _ o ha, hN a o fa, h0, r.mono f.F⟩
  | bor ds =>
    obtain ⟨a, vs, i, e, o, ha, r⟩ := x
    exact ⟨a, vs, i, e, f.O _ _ o, f.H _ _ _ o ha, r.mono f.F⟩
  | bag k =>
    obtain ⟨a, e, q⟩ := x
    obtain ⟨l, hl⟩ := f.bs
    exact ⟨a, e, by rw [hl, List.getElem?_append_left (List.getElem?_eq_some_iff.mp q).1]; exact q⟩
  | scr ns =>
    obtain ⟨a, e, q⟩ := x
    exact ⟨a, e, f.F.seq q⟩
  | ty n => exact x
theorem TsOk.keep (f : Fro G H G' H') : ∀ {ts : List (V × W)}, (∀ a n, n < ts.length → G.O a = some (.inr n) → G.F a = none → G'.F a = none) → TsOk K H0 G H ts → TsOk K H0 G' H' ts
  | [], _, _ => trivial
  | _ :: ts, hN, ⟨x, y⟩ => ⟨x.keep f fun a => hN a _ (Nat.lt_succ_self _), TsOk.keep f (fun a n hn => hN a n (Nat.lt_succ_of_lt hn)) y⟩
theorem TsOk.tail {p : V × W} (x : TsOk K H0 G H (p :: ts)) : TsOk K H0 G H ts := x.2

/-- a temp goes -/
theorem Ok.pop {p : V × W} (x : Ok K H0 F0 bs0 env (p :: ts) σ G H) : Ok K H0 F0 bs0 env ts σ G H :=
  ⟨x.len, x.sub, x.ext, x.f0, x.fnew, x.bpre, x.bok, x.ow, x.slots, x.temps.2⟩
/-- plain data comes -/
theorem Ok.push (x : Ok K H0 F0 bs0 env ts σ G H) (r : WR K H0 G H (.inr ts.length) v w) : Ok K H0 F0 bs0 env ((v, w) :: ts) σ G H :=
  ⟨x.len, x.sub, x.ext, x.f0, x.fnew, x.bpre, x.bok, x.ow, x.slots, r, x.temps⟩
theorem Ok.pushV {d : PD} (x : Ok K H0 F0 bs0 env ts σ G H) (r : Rp K G.F v d) : Ok K H0 F0 bs0 env ((v, .val d) :: ts) σ G H := x.push r
/-- the object at a, one's own, becomes data: the temp at the head -/
theorem Ok.frzTop (x : Ok K H0 F0 bs0 env ((v, w) :: ts) σ G H) (hw : ∀ ds, w ≠ .bor ds) : ∃ G', Ok K H0 F0 bs0 env ((v, w.frz) :: ts) σ G' H ∧ G'.bs = G.bs ∧ Same G.F G'.F := by
  cases w with
  | own ds =>
    obtain ⟨a, vs, e, o, ha, fa, h0, r⟩ := x.temps.1
    have f : Fro G H { G with F := upd G.F a (.lst vs) } H := ⟨same_new fa, ⟨[], by simp⟩, fun _ _ q => q, fun _ _ _ _ q => q⟩
    have oth : ∀ b k, k ≠ .inr ts.length → G.O b = some k → G.F b = none → (upd G.F a (.lst vs)) b = none := fun b k hk q z => by
      rw [upd_ne]
      · exact z
      · rintro rfl
        rw [o] at q
        exact hk (Option.some.inj q).symm
    refine ⟨{ G with F := upd G.F a (.lst vs) }, ⟨x.len, fun b u q => ?_, x.ext, x.f0.trans (same_new fa), fun b u q z => ?_, x.bpre, fun b hb => ?_, x.ow, fun i w hw => ?_, ?_, ?_⟩, rfl, same_new fa⟩
    · by_cases hb : b = a
      · subst hb
        simp only [upd_same] at q
        rw [← q]; exact ha
      · simp only [upd_ne hb] at q
        exact x.sub b u q
    · by_cases hb : b = a
      · subst hb; exact h0
      · simp only [upd_ne hb] at q
        exact x.fnew b u q z
    · obtain ⟨q1, q2, q3, q4⟩ := x.bok b hb
      refine ⟨q1, ?_, q3, q4⟩
      show upd G.F a _ b = none
      rw [upd_ne]
      · exact q2
      · rintro rfl; rw [o] at q3; cases q3
    · obtain ⟨nb, v', e', r'⟩ := x.slots i w hw
      exact ⟨nb, v', e', r'.keep f fun b q z => oth b _ (by simp) q z⟩
    · show Rp K (upd G.F a (.lst vs)) v (.list ds)
      rw [show v = V.ref a from e]
      exact .lst (by rw [upd_same]) (r.mono (same_new fa))
    · exact TsOk.keep f (fun b n hn q z => oth b _ (fun y => by have := Sum.inr.inj y; omega) q z) x.temps.2
  | bor ds => exact absurd rfl (hw ds)
  | val d => exact ⟨G, x, rfl, Same.refl _⟩
  | bag k => exact ⟨G, x, rfl, Same.refl _⟩
  | scr ns => exact ⟨G, x, rfl, Same.refl _⟩
  | ty n => exact ⟨G, x, rfl, Same.refl _⟩
/-- the list of a slot becomes data -/
theorem Ok.frzSlot {i : Nat} {ds : List PD} (x : Ok K H0 F0 bs0 env ts σ G H) (hi : env[i]? = some (some (.own ds))) :
    ∃ G' v, σ[i]? = some (some v) ∧ Rp K G'.F v (.list ds) ∧ Ok K H0 F0 bs0 (env.set i (some (.val (.list ds)))) ts σ G' H := by
  obtain ⟨_, v, ev, a, vs, e, o, ha, fa, h0, r⟩ := x.slots i _ hi
  have f : Fro G H { G with F := upd G.F a (.lst vs) } H := ⟨same_new fa, ⟨[], by simp⟩, fun _ _ q => q, fun _ _ _ _ q => q⟩
  have oth : ∀ b k, k ≠ .inl i → G.O b = some k → G.F b = none → (upd G.F a (.lst vs)) b = none := fun b k hk q z => by
    rw [upd_ne]
    · exact z
    · rintro rfl
      rw [o] at q
      exact hk (Option.some.inj q).symm
  have rv : Rp K (upd G.F a (.lst vs)) v (.list ds) := by
    rw [e]
    exact .lst (by rw [upd_same]) (r.mono (same_new fa))
  refine ⟨{ G with F := upd G.F a (.lst vs) }, v, ev, rv, ⟨by rw [List.length_set]; exact x.len, fun b u q => ?_, x.ext, x.f0.trans (same_new fa), fun b u q z => ?_, x.bpre, fun b hb => ?_, x.ow, fun j w hw => ?_, ?_⟩⟩
  · by_cases hb : b = a
    · subst hb
      simp only [upd_same] at q
      rw [← q]; exact ha
    · simp only [upd_ne hb] at q
      exact x.sub b u q
  · by_cases hb : b = a
    · subst hb; exact h0
    · simp only [upd_ne hb] at q
      exact x.fnew b u q z
  · obtain ⟨q1, q2, q3, q4⟩ := x.bok b hb
    refine ⟨q1, ?_, q3, q4⟩
    show upd G.F a _ b = none
    rw [upd_ne]
    · exact q2
    · rintro rfl; rw [o] at q3; cases q3
  · by_cases hj : i = j
    · subst hj
      rw [List.getElem?_set_self (List.getElem?_eq_some_iff.mp hi).1] at hw
      cases hw
      exact ⟨fun _ => by simp, v, ev, rv⟩
    · rw [List.getElem?_set_ne hj] at hw
      obtain ⟨nb, v', e', r'⟩ := x.slots j w hw
      exact ⟨nb, v', e', r'.keep f fun b q z => oth b _ (by rintro ⟨⟩; exact hj rfl) q z⟩
  · exact TsOk.keep f (fun b n hn q z => oth b _ (by simp) q z) x.temps

theorem fro_new {p : Addr} {o : HO} (x : Ok K H0 F0 bs0 env ts σ G H) (hp : H p = none) (hF : ∀ a, a ≠ p → G'.F a = G.F a) (hb : G'.bs = G.bs) (hO : ∀ a, a ≠ p → G'.O a = G.O a) :
    ∀ (ho : ∀ h, G.O p = some h → G'.O p = some h), Fro G H G' (upd H p o) := fun ho => ⟨fun a u q => by
      by_cases e : a = p
      · subst e; have := x.sub a u q; rw [hp] at this; cases this
      · rw [hF a e]; exact q, ⟨[], by rw [hb]; simp⟩, fun a h q => by
      by_cases e : a = p
      · subst e; exact ho h q
      · rw [hO a e]; exact q, fun a h u _ q => by rw [upd_ne (ne_of_none q hp)]; exact q⟩

/-- a new tuple comes, made of data -/
theorem Ok.newT {p : Addr} {vs : List V} {ds : List PD} (x : Ok K H0 F0 bs0 env ts σ G H) (hp : H p = none) (r : RpA K G.F vs ds) :
    Ok K H0 F0 bs0 env ((.ref p, .val (.tuple ds)) :: ts) σ { G with F := upd G.F p (.tup vs), O := fun a => if a = p then none else G.O a } (upd H p (.tup vs)) := by
  have hF : G.F p = none := x.sub.free hp
  have sF : Same G.F (upd G.F p (.tup vs)) := same_new hF
  have noO : ∀ {h : Holder} {v : V} {w : W}, WR K H0 G H h v w → WR K H0 { G with F := upd G.F p (.tup vs), O := fun a => if a = p then none else G.O a } (upd H p (.tup vs)) h v w := fun {h v w} y => by
    cases w with
    | val d => exact Rp.mono sF y
    | own ds =>
      obtain ⟨a, us, e, o, ha, fa, h0, r⟩ := y
      have ne : a ≠ p := ne_of_none ha hp
      exact ⟨a, us, e, by show (if a = p then none else G.O a) = _; rw [if_neg ne]; exact o, by rw [upd_ne ne]; exact ha, by show upd G.F p _ a = none; rw [upd_ne ne]; exact fa, h0, r.mono sF⟩
    | bor ds =>
      obtain ⟨a, us, i, e, o, ha, r⟩ := y
      have ne : a ≠ p := ne_of_none ha hp
      exact ⟨a, us, i, e, by show (if a = p then none else G.O a) = _; rw [if_neg ne]; exact o, by rw [upd_ne ne]; exact ha, r.mono sF⟩
    | bag k => exact y
    | scr ns => obtain ⟨a, e, q⟩ := y; exact ⟨a, e, sF.seq q⟩
    | ty n => exact y
  have all : ∀ {ts : List (V × W)}, TsOk K H0 G H ts → TsOk K H0 { G with F := upd G.F p (.tup vs), O := fun a => if a = p then none else G.O a } (upd H p (.tup vs)) ts := fun {ts} => by
    induction ts with
    | nil => intro _; trivial
    | cons q ts ih => intro ⟨a, b⟩; exact ⟨noO a, ih b⟩
  refine ⟨x.len, fun b u q => ?_, fun b o nb q => ?_, x.f0.trans sF, fun b u q z => ?_, x.bpre, fun b hb => ?_, fun b k q => (by
    have q : (if b = p then none else G.O b) = some k := q
    by_cases hb : b = p
    · rw [if_pos hb] at q; cases q
    · rw [if_neg hb] at q; rw [upd_ne hb]; exact x.ow b k q), fun i w hw => ?_, ?_, all x.temps⟩
  · by_cases hb : b = p
    · subst hb
      simp only [upd_same] at q
      rw [upd_same]; exact q
    · simp only [upd_ne hb] at q
      rw [upd_ne hb]; exact x.sub b u q
  · have := x.ext b o nb q
    rw [upd_ne (ne_of_none this hp)]; exact this
  · by_cases hb : b = p
    · subst hb
      cases e0 : H0 b with
      | none => rfl
      | some u0 =>
        by_cases hbb : b ∈ bs0
        · obtain ⟨l, hl⟩ := x.bpre
          obtain ⟨⟨_, _, e1, _⟩, _⟩ := x.bok b (by rw [hl]; exact List.mem_append_left _ hbb)
          rw [hp] at e1; cases e1
        · have := x.ext b u0 hbb e0
          rw [hp] at this; cases this
    · simp only [upd_ne hb] at q
      exact x.fnew b u q z
  · obtain ⟨⟨i, j, e1, e2⟩, q2, q3, q4⟩ := x.bok b hb
    have ne : b ≠ p := ne_of_none e1 hp
    exact ⟨⟨i, j, by rw [upd_ne ne]; exact e1, e2⟩, by show upd G.F p _ b = none; rw [upd_ne ne]; exact q2, by show (if b = p then none else G.O b) = none; rw [if_neg ne]; exact q3, q4⟩
  · obtain ⟨nb, v', e', r'⟩ := x.slots i w hw
    exact ⟨nb, v', e', noO r'⟩
  · exact .tup (.inl (.inl upd_same)) (r.mono sF)
theorem Ok.fresh {p : Addr} (x : Ok K H0 F0 bs0 env ts σ G H) (hp : H p = none) : H0 p = none := by
  cases e0 : H0 p with
  | none => rfl
  | some u0 =>
    by_cases hbb : p ∈ bs0
    · obtain ⟨l, hl⟩ := x.bpre
      obtain ⟨⟨_, _, e1, _⟩, _⟩ := x.bok p (by rw [hl]; exact List.mem_append_left _ hbb)
      rw [hp] at e1; cases e1
    · have := x.ext p u0 hbb e0
      rw [hp] at this; cases this
/-- a new list of one's own comes -/
theorem Ok.newL {p : Addr} {vs : List V} {ds : List PD} (x : Ok K H0 F0 bs0 env ts σ G H) (hp : H p = none) (r : RpA K G.F vs ds) :
    Ok K H0 F0 bs0 env ((.ref p, .own ds) :: ts) σ { G with O := fun a => if a = p then some (.inr ts.length) else G.O a } (upd H p (.lst vs)) := by
  have hF : G.F p = none := x.sub.free hp
  have noO : ∀ {h : Holder} {v : V} {w : W}, WR K H0 G H h v w → WR K H0 { G with O := fun a => if a = p then some (.inr ts.length) else G.O a } (upd H p (.lst vs)) h v w := fun {h v w} y => by
    cases w with
    | val d => exact y
    | own ds =>
      obtain ⟨a, us, e, o, ha, fa, h0, r⟩ := y
      have ne : a ≠ p := ne_of_none ha hp
      exact ⟨a, us, e, by show (if a = p then _ else G.O a) = _; rw [if_neg ne]; exact o, by rw [upd_ne ne]; exact ha, fa, h0, r⟩
    | bor ds =>
      obtain ⟨a, us, i, e, o, ha, r⟩ := y
      have ne : a ≠ p := ne_of_none ha hp
      exact ⟨a, us, i, e, by show (if a = p then _ else G.O a) = _; rw [if_neg ne]; exact o, by rw [upd_ne ne]; exact ha, r⟩
    | bag k => exact y
    | scr ns => exact y
    | ty n => exact y
  have all : ∀ {us : List (V × W)}, TsOk K H0 G H us → TsOk K H0 { G with O := fun a => if a = p then some (.inr ts.length) else G.O a } (upd H p (.lst vs)) us := fun {us} => by
    induction us with
    | nil => intro _; trivial
    | cons q us ih => intro ⟨a, b⟩; exact ⟨noO a, ih b⟩
  refine ⟨x.len, fun b u q => ?_, fun b o nb q => ?_, x.f0, x.fnew, x.bpre, fun b hb => ?_, fun b k q => (by
    have q : (if b = p then some (Sum.inr ts.length) else G.O b) = some k := q
    by_cases hb : b = p
    · rw [hb, upd_same]; exact ⟨_, rfl⟩
    · rw [if_neg hb] at q; rw [upd_ne hb]; exact x.ow b k q), fun i w hw => ?_, ?_, all x.temps⟩
  · have := x.sub b u q
    rw [upd_ne (ne_of_none this hp)]; exact this
  · have := x.ext b o nb q
    rw [upd_ne (ne_of_none this hp)]; exact this
  · obtain ⟨⟨i, j, e1, e2⟩, q2, q3, q4⟩ := x.bok b hb
    have ne : b ≠ p := ne_of_none e1 hp
    exact ⟨⟨i, j, by rw [upd_ne ne]; exact e1, e2⟩, q2, by show (if b = p then _ else G.O b) = none; rw [if_neg ne]; exact q3, q4⟩
  · obtain ⟨nb, v', e', r'⟩ := x.slots i w hw
    exact ⟨nb, v', e', noO r'⟩
  · exact ⟨p, vs, rfl, by show (if p = p then _ else _) = _; rw [if_pos rfl], upd_same, hF, x.fresh hp, r⟩
/-- the temp goes into a slot -/
theorem Ok.store {i : Nat} (x : Ok K H0 F0 bs0 env ((v, w) :: ts) σ G H) (hw : ∀ ds, w ≠ .bor ds) :
    ∃ G', Ok K H0 F0 bs0 (env.set i (some w)) ts (σ.set i (some v)) G' H ∧ G'.F = G.F := by
  have put : ∀ (G' : Gh), G'.F = G.F → G'.bs = G.bs → (∀ a, a ∈ G.bs → G'.O a = none) → (∀ a h, G'.O a = some h → ∃ o, H a = some o) → WR K H0 G' H (.inl i) v w → (∀ {h : Holder} {v' : V} {w' : W}, h ≠ .inr ts.length → WR K H0 G H h v' w' → WR K H0 G' H h v' w') →
      ∃ G', Ok K H0 F0 bs0 (env.set i (some w)) ts (σ.set i (some v)) G' H ∧ G'.F = G.F := by
    intro G' eF eb hb how hv oth
    have all : ∀ {us : List (V × W)}, us.length ≤ ts.length → TsOk K H0 G H us → TsOk K H0 G' H us := fun {us} => by
      induction us with
      | nil => intro _ _; trivial
      | cons q us ih =>
        intro hl ⟨a, b⟩
        have hl' : us.length + 1 ≤ ts.length := hl
        exact ⟨oth (fun z => by have := Sum.inr.inj z; omega) a, ih (by omega) b⟩
    refine ⟨G', ⟨by simpa using x.len, by rw [eF]; exact x.sub, x.ext, by rw [eF]; exact x.f0, by rw [eF]; exact x.fnew, by rw [eb]; exact x.bpre, fun b h => ?_, how, fun j w' hw' => ?_, all (Nat.le_refl _) x.temps.2⟩, eF⟩
    · rw [eb] at h
      obtain ⟨q1, q2, q3, q4⟩ := x.bok b h
      exact ⟨q1, by rw [eF]; exact q2, hb b h, q4⟩
    · by_cases hj : i = j
      · subst hj
        have hi : i < env.length := by
          by_cases hi : i < env.length
          · exact hi
          · rw [List.getElem?_eq_none (by simpa using hi)] at hw'; cases hw'
        rw [List.getElem?_set_self hi] at hw'
        cases hw'
        exact ⟨hw, v, List.getElem?_set_self (by rw [← x.len]; exact hi), hv⟩
      · rw [List.getElem?_set_ne hj] at hw'
        obtain ⟨nb, v', e', r'⟩ := x.slots j w' hw'
        exact ⟨nb, v', by rw [List.getElem?_set_ne hj]; exact e', oth (by simp) r'⟩
  have bno : ∀ a, a ∈ G.bs → G.O a = none := fun a h => (x.bok a h).2.2.1
  cases w with
  | own ds =>
    obtain ⟨a, vs, e, o, ha, fa, h0, r⟩ := x.temps.1
    refine put { G with O := fun b => if b = a then some (.inl i) else G.O b } rfl rfl (fun b hb => ?_) (fun b k q => (by
      have q : (if b = a then some (Sum.inl i) else G.O b) = some k := q
      by_cases hb : b = a
      · rw [hb]; exact ⟨_, ha⟩
      · rw [if_neg hb] at q; exact x.ow b k q)) ⟨a, vs, e, by show (if a = a then _ else _) = _; rw [if_pos rfl], ha, fa, h0, r⟩ fun {h v' w'} nh y => ?_
    · show (if b = a then _ else _) = none
      rw [if_neg]
      · exact bno b hb
      · rintro rfl; rw [bno b hb] at o; cases o
    · cases w' with
      | own ds' =>
        obtain ⟨b, us, e', o', r'⟩ := y
        refine ⟨b, us, e', ?_, r'⟩
        show (if b = a then _ else G.O b) = _
        rw [if_neg]
        · exact o'
        · rintro rfl
          rw [o] at o'
          exact nh (Option.some.inj o').symm
      | bor ds' =>
        obtain ⟨b, us, j, e', o', r'⟩ := y
        refine ⟨b, us, j, e', ?_, r'⟩
        show (if b = a then _ else G.O b) = _
        rw [if_neg]
        · exact o'
        · rintro rfl
          rw [o] at o'
          cases o'
      | val d => exact y
      | bag k => exact y
      | scr ns => exact y
      | ty n => exact y
  | bor ds => exact absurd rfl (hw ds)
  | val d => exact put G rfl rfl bno x.ow x.temps.1 fun _ y => y
  | bag k => exact put G rfl rfl bno x.ow x.temps.1 fun _ y => y
  | scr ns => exact put G rfl rfl bno x.ow x.temps.1 fun _ y => y
  | ty n => exact put G rfl rfl bno x.ow x.temps.1 fun _ y => y
/-- a slot's own list is written -/
theorem Ok.write {i : Nat} {a : Addr} {ds ds' : List PD} {vs' : List V} (x : Ok K H0 F0 bs0 env [] σ G H) (hi : env[i]? = some (some (.own ds))) (hv : σ[i]? = some (some (.ref a))) (r' : RpA K G.F vs' ds') :
    Ok K H0 F0 bs0 (env.set i (some (.own ds'))) [] σ G (upd H a (.lst vs')) := by
  obtain ⟨_, v, ev, b, us, e, o, ha, fa, h0, r⟩ := x.slots i _ hi
  rw [hv] at ev
  cases ev
  cases e
  refine ⟨by simpa using x.len, fun b u q => ?_, fun b u nb q => ?_, x.f0, x.fnew, x.bpre, fun b hb => ?_, fun b k q => (by
    by_cases hb : b = a
    · rw [hb, upd_same]; exact ⟨_, rfl⟩
    · rw [upd_ne hb]; exact x.ow b k q), fun j w' hw' => ?_, trivial⟩
  · have ne : b ≠ a := by rintro rfl; rw [fa] at q; cases q
    rw [upd_ne ne]; exact x.sub b u q
  · have ne : b ≠ a := by rintro rfl; rw [h0] at q; cases q
    rw [upd_ne ne]; exact x.ext b u nb q
  · obtain ⟨⟨i, j, e1, e2⟩, q2, q3, q4⟩ := x.bok b hb
    have ne : b ≠ a := by rintro rfl; rw [o] at q3; cases q3
    exact ⟨⟨i, j, by rw [upd_ne ne]; exact e1, e2⟩, q2, q3, q4⟩
  · by_cases hj : i = j
    · subst hj
      rw [List.getElem?_set_self (List.getElem?_eq_some_iff.mp hi).1] at hw'
      cases hw'
      exact ⟨fun _ => by simp, _, hv, a, vs', rfl, o, upd_same, fa, h0, r'⟩
    · rw [List.getElem?_set_ne hj] at hw'
      obtain ⟨nb, v', e', y⟩ := x.slots j w' hw'
      refine ⟨nb, v', e', ?_⟩
      cases w' with
      | own ds' =>
        obtain ⟨b, us, e', o', ha', z⟩ := y
        refine ⟨b, us, e', o', ?_, z⟩
        rw [upd_ne]
        · exact ha'
        · rintro rfl
          rw [o] at o'
          cases o'
          exact hj rfl
      | bor ds' => exact absurd rfl (nb ds')
      | val d => exact y
      | bag k => exact y
      | scr ns => exact y
      | ty n => exact y
end
end Pw
/-! Pw2: judgements over pure data, promises, calls. -/
namespace Pw
open PySem PySem.Spec PyProof.Rows L2

def nb (w : W) : Prop := ∀ ds, w ≠ .bor ds
@[simp] theorem nb_val {d : PD} : nb (.val d) := fun _ h => by cases h
@[simp] theorem nb_own {d : List PD} : nb (.own d) := fun _ h => by cases h
@[simp] theorem nb_bag {k : Nat} : nb (.bag k) := fun _ h => by cases h
@[simp] theorem nb_scr {k : List Int} : nb (.scr k) := fun _ h => by cases h
@[simp] theorem nb_ty {k : String} : nb (.ty k) := fun _ h => by cases h

/-! ### weakest readings -/
section
variable (X : Cx)
def wkE (e : Expr) : TE := fun σ H Q => ∀ pins s, Inv X pins σ H s → wpAny (model X.prog X.w) X.A (eval e X.env) (EP X pins σ Q) X.xe s
def wkT (e : Expr) : TT := fun σ H Q => ∀ pins s, Inv X pins σ H s → wpAny (model X.prog X.w) X.A (isTrue e X.env (eval e X.env)) (TP X pins σ Q) X.xe s
def wkA (es : List Expr) : TA := fun σ H Q => ∀ pos pins s, Inv X pins σ H s → wpAny (model X.prog X.w) X.A (spliced (backTo pos (starEach es X.env))) (AP X pins σ Q) X.xe s
def wkS (st : Stmt) : TS := fun D σ H => ∀ pins s, Inv X pins σ H s → wpAny (model X.prog X.w) X.A (exec st X.env) (SP X pins D) X.xe s
def wkSs (st : List Stmt) : TS := fun D σ H => ∀ pins s, Inv X pins σ H s → wpAny (model X.prog X.w) X.A (execs st X.env) (SP X pins D) X.xe s
def wkG (tg : Expr) : TG := fun v σ H Q => ∀ pins s u, Inv X pins σ H s → RelV v u → wpAny (model X.prog X.w) X.A (assign tg X.env u) (fun _ s' => ∃ σ' H', Inv X pins σ' H' s' ∧ Q σ' H') X.xe s
end
section
variable {X : Cx} {e : Expr} {es : List Expr} {st : Stmt} {sts : List Stmt}
theorem wkE_ok : PE X e (wkE X e) := ⟨fun pins s σ H Q I h => h pins s I⟩
theorem wkT_ok : PT X e (wkT X e) := ⟨fun pins s σ H Q I h => h pins s I⟩
theorem wkA_ok : PA X es (wkA X es) := ⟨fun pos pins s σ H Q I h => h pos pins s I⟩
theorem wkS_ok : PS X st (wkS X st) := ⟨fun pins s σ H D I h => h pins s I⟩
theorem wkSs_ok : PSs X sts (wkSs X sts) := ⟨fun pins s σ H D I h => h pins s I⟩
theorem wkG_ok : PG X e (wkG X e) := ⟨fun pins s σ H v u Q I r h => h pins s u I r⟩
theorem PE.wk {t : TE} (h : PE X e t) {σ : St} {H : Hp} {Q : VK} (q : t σ H Q) : wkE X e σ H Q := fun pins s I => h.run pins s σ H Q I q
theorem PT.wk {t : TT} (h : PT X e t) {σ : St} {H : Hp} {Q : Bool → Hp → Prop} (q : t σ H Q) : wkT X e σ H Q := fun pins s I => h.run pins s σ H Q I q
theorem PA.wk {t : TA} (h : PA X es t) {σ : St} {H : Hp} {Q : List V → Hp → Prop} (q : t σ H Q) : wkA X es σ H Q := fun pos pins s I => h.run pos pins s σ H Q I q
theorem PS.wk {t : TS} (h : PS X st t) {D : Ends} {σ : St} {H : Hp} (q : t D σ H) : wkS X st D σ H := fun pins s I => h.run pins s σ H D I q
theorem PSs.wk {t : TS} (h : PSs X sts t) {D : Ends} {σ : St} {H : Hp} (q : t D σ H) : wkSs X sts D σ H := fun pins s I => h.run pins s σ H D I q
theorem PG.wk {t : TG} (h : PG X e t) {v : V} {σ : St} {H : Hp} {Q : St → Hp → Prop} (q : t v σ H Q) : wkG X e v σ H Q := fun pins s u I r => h.run pins s σ H v u Q I r q
end

/-! ### judgements -/
def zipR : List V → List W → List (V × W) → List (V × W)
  | v :: vs, w :: ws, ts => zipR vs ws ((v, w) :: ts)
  | _, _, ts => ts
def HX (X : Cx) (e : Expr) (env : Env) (Q : W → Env → Prop) : Prop := ∀ H0 F0 bs0 ts σ G H Q', Ok X.K H0 F0 bs0 env ts σ G H →
  (∀ v w env' G' H', Q w env' → Ok X.K H0 F0 bs0 env' ((v, w) :: ts) σ G' H' → Q' v H') → wkE X e σ H Q'
def HT (X : Cx) (e : Expr) (env : Env) (Q : Bool → Env → Prop) : Prop := ∀ H0 F0 bs0 ts σ G H Q', Ok X.K H0 F0 bs0 env ts σ G H →
  (∀ b env' G' H', Q b env' → Ok X.K H0 F0 bs0 env' ts σ G' H' → Q' b H') → wkT X e σ H Q'
def HA (X : Cx) (es : List Expr) (env : Env) (Q : List W → Env → Prop) : Prop := ∀ H0 F0 bs0 ts σ G H Q', Ok X.K H0 F0 bs0 env ts σ G H →
  (∀ vs ws env' G' H', vs.length = ws.length → Q ws env' → Ok X.K H0 F0 bs0 env' (zipR vs ws ts) σ G' H' → Q' vs H') → wkA X es σ H Q'
structure DE where
  nx : Env → Prop
  rt : W → Prop
  bk : Env → Prop := fun _ => False
  ct : Env → Prop := fun _ => False
/-- what follows, below -/
structure Dn (K : PySem.W.Frag) (H0 F0 : Hp) (bs0 : List Addr) (D : DE) (D' : Ends) : Prop where
  nx : ∀ env σ G H, D.nx env → Ok K H0 F0 bs0 env [] σ G H → D'.nx σ H
  rt : ∀ v w env σ G H, nb w → D.rt w → Ok K H0 F0 bs0 env [(v, w)] σ G H → D'.rt v H
  bk : ∀ env σ G H, D.bk env → Ok K H0 F0 bs0 env [] σ G H → D'.bk σ H
  ct : ∀ env σ G H, D.ct env → Ok K H0 F0 bs0 env [] σ G H → D'.ct σ H
def HS (X : Cx) (st : Stmt) (env : Env) (D : DE) : Prop := ∀ H0 F0 bs0 σ G H D', Ok X.K H0 F0 bs0 env [] σ G H → Dn X.K H0 F0 bs0 D D' → wkS X st D' σ H
def HSs (X : Cx) (sts : List Stmt) (env : Env) (D : DE) : Prop := ∀ H0 F0 bs0 σ G H D', Ok X.K H0 F0 bs0 env [] σ G H → Dn X.K H0 F0 bs0 D D' → wkSs X sts D' σ H
/-- a target takes a temp -/
def HG (X : Cx) (tg : Expr) (w : W) (env : Env) (Q : Env → Prop) : Prop := ∀ H0 F0 bs0 ts σ G H v Q', Ok X.K H0 F0 bs0 env ((v, w) :: ts) σ G H →
  (∀ env' σ' G' H', Q env' → Ok X.K H0 F0 bs0 env' ts σ' G' H' → Q' σ' H') → wkG X tg v σ H Q'

section
variable {X : Cx} {e : Expr} {es : List Expr} {env : Env}
theorem HX.mono {Q Q' : W → Env → Prop} (h : HX X e env Q) (k : ∀ w e', Q w e' → Q' w e') : HX X e env Q' := fun H0 F0 bs0 ts σ G H P x p => h H0 F0 bs0 ts σ G H P x fun v w env' G' H' q => p v w env' G' H' (k _ _ q)
theorem HT.mono {Q Q' : Bool → Env → Prop} (h : HT X e env Q) (k : ∀ w e', Q w e' → Q' w e') : HT X e env Q' := fun H0 F0 bs0 ts σ G H P x p => h H0 F0 bs0 ts σ G H P x fun w env' G' H' q => p w env' G' H' (k _ _ q)
theorem HA.mono {Q Q' : List W → Env → Prop} (h : HA X es env Q) (k : ∀ w e', Q w e' → Q' w e') : HA X es env Q' := fun H0 F0 bs0 ts σ G H P x p => h H0 F0 bs0 ts σ G H P x fun v w env' G' H' l q => p v w env' G' H' l (k _ _ q)
end

/-! ### operators -/
def OpD (K : PySem.W.Frag) (r : R2) (f : W → W → (W → Prop) → Prop) : Prop := ∀ {H0 F0 : Hp} {bs0 : List Addr} {env : Env} {ts : List (V × W)} {σ : St} {G : Gh} {H : Hp} {v1 v2 : V} {w1 w2 : W} {P : W → Prop} {Q' : VK},
  Ok K H0 F0 bs0 env ((v2, w2) :: (v1, w1) :: ts) σ G H → f w1 w2 P → (∀ v w G' H', nb w → P w → Ok K H0 F0 bs0 env ((v, w) :: ts) σ G' H' → Q' v H') → r v1 v2 H Q'
def CallD (K : PySem.W.Frag) (r : List V → Hp → VK → Prop) (f : List W → (W → Prop) → Prop) : Prop := ∀ {H0 F0 : Hp} {bs0 : List Addr} {env : Env} {ts : List (V × W)} {σ : St} {G : Gh} {H : Hp} {vs : List V} {ws : List W} {P : W → Prop} {Q' : VK},
  vs.length = ws.length → Ok K H0 F0 bs0 env (zipR vs ws ts) σ G H → f ws P → (∀ v w G' H', nb w → P w → Ok K H0 F0 bs0 env ((v, w) :: ts) σ G' H' → Q' v H') → r vs H Q'
section
variable {K : PySem.W.Frag} {r r' : R2} {f f' : W → W → (W → Prop) → Prop} {X : Cx}
theorem OpR.or {g : Value → Value → Sem Value} (h : OpR X g r) (h' : OpR X g r') : OpR X g (fun x y H Q => r x y H Q ∨ r' x y H Q) := fun pins s σ H x y v u Q I rx ry q => q.elim (h pins s σ H x y v u Q I rx ry) (h' pins s σ H x y v u Q I rx ry)
theorem CallR.or {g : Value} {r r' : List V → Hp → VK → Prop} (h : CallR X g r) (h' : CallR X g r') : CallR X g (fun x H Q => r x H Q ∨ r' x H Q) := fun pins s σ H x u Q I rx q => q.elim (h pins s σ H x u Q I rx) (h' pins s σ H x u Q I rx)
theorem OpD.or (h : OpD K r f) (h' : OpD K r' f') : OpD K (fun x y H Q => r x y H Q ∨ r' x y H Q) (fun a b P => f a b P ∨ f' a b P) := fun x q p => q.elim (fun q => .inl (h x q p)) (fun q => .inr (h' x q p))
/-- plain ints in, a plain value out -/
theorem Ok.int1 {H0 F0 : Hp} {bs0 : List Addr} {env : Env} {ts : List (V × W)} {σ : St} {G : Gh} {H : Hp} {v : V} {i : Int} (x : Ok K H0 F0 bs0 env ((v, .val (.int i)) :: ts) σ G H) : v = .int i := by
  have r : Rp K G.F v (.int i) := x.temps.1
  cases r; rfl
theorem Ok.int2 {H0 F0 : Hp} {bs0 : List Addr} {env : Env} {ts : List (V × W)} {σ : St} {G : Gh} {H : Hp} {v u : V} {w : W} {i : Int} (x : Ok K H0 F0 bs0 env ((u, w) :: (v, .val (.int i)) :: ts) σ G H) : v = .int i := x.pop.int1
theorem Ok.str1 {H0 F0 : Hp} {bs0 : List Addr} {env : Env} {ts : List (V × W)} {σ : St} {G : Gh} {H : Hp} {v : V} {i : Str} (x : Ok K H0 F0 bs0 env ((v, .val (.str i)) :: ts) σ G H) : v = .str i := by
  have r : Rp K G.F v (.str i) := x.temps.1
  cases r; rfl
def iiD (C : Int → Int → Prop) (g : Int → Int → PD) : W → W → (W → Prop) → Prop
  | .val (.int i), .val (.int j), P => C i j ∧ P (.val (g i j))
  | _, _, _ => False
theorem iiD_inv {C : Int → Int → Prop} {g : Int → Int → PD} {a b : W} {P : W → Prop} (h : iiD C g a b P) : ∃ i j, a = .val (.int i) ∧ b = .val (.int j) ∧ C i j ∧ P (.val (g i j)) := by
  unfold iiD at h
  split at h
  · exact ⟨_, _, rfl, rfl, h⟩
  · exact h.elim
theorem iiD_ok {C : Int → Int → Prop} {g : Int → Int → PD} {gV : Int → Int → V} (hg : ∀ F i j, Rp K F (gV i j) (g i j)) : OpD K (rI C gV) (iiD C g) := fun x q p => by
  obtain ⟨i, j, rfl, rfl, c, q⟩ := iiD_inv q
  exact ⟨i, j, x.int2, x.int1, c, p _ _ _ _ nb_val q (x.pop.pop.pushV (hg _ i j))⟩
theorem rI0_I {g : Int → Int → V} {x y : V} {H : Hp} {Q : VK} : rI (fun _ _ => True) g x y H Q → rI0 g x y H Q := fun ⟨i, j, a, b, _, c⟩ => ⟨i, j, a, b, c⟩
theorem OpR.I {f : Value → Value → Sem Value} {g : Int → Int → V} (h : OpR X f (rI0 g)) : OpR X f (rI (fun _ _ => True) g) := fun pins s σ H x y v u Q I rx ry q => h pins s σ H x y v u Q I rx ry (rI0_I q)
theorem he_bin {op : Operator} {a b : Expr} {pos : Pos} {env : Env} {Q : W → Env → Prop} (ho : OpR X (binaryOp op) r) (hd : OpD X.K r f) (h : HX X a env fun w1 e1 => HX X b e1 fun w2 e2 => f w1 w2 fun w => Q w e2) :
    HX X (.BinOp a op b pos) env (fun w e => nb w ∧ Q w e) := fun H0 F0 bs0 ts σ G H Q' x post => by
  refine PE.wk (pe_op ho wkE_ok wkE_ok) ?_
  exact h _ _ _ _ _ _ _ _ x fun v1 w1 env1 G1 H1 q1 x1 => q1 _ _ _ _ _ _ _ _ x1 fun v2 w2 env2 G2 H2 q2 x2 => hd x2 q2 fun v w G' H' hn hq hx => post v w env2 G' H' ⟨hn, hq⟩ hx
theorem he_cmp {op : CmpOp} {a b : Expr} {pos : Pos} {env : Env} {Q : W → Env → Prop} (ho : OpR X (compareOp op) r) (hd : OpD X.K r f) (hm : behindInMarks op b = false) (h : HX X a env fun w1 e1 => HX X b e1 fun w2 e2 => f w1 w2 fun w => Q w e2) :
    HX X (.Compare a [op] [b] pos) env (fun w e => nb w ∧ Q w e) := fun H0 F0 bs0 ts σ G H Q' x post => by
  refine PE.wk (pe_cmpR ho wkE_ok wkE_ok hm) ?_
  exact h _ _ _ _ _ _ _ _ x fun v1 w1 env1 G1 H1 q1 x1 => q1 _ _ _ _ _ _ _ _ x1 fun v2 w2 env2 G2 H2 q2 x2 => hd x2 q2 fun v w G' H' hn hq hx => post v w env2 G' H' ⟨hn, hq⟩ hx
theorem Ok.bool1 {H0 F0 : Hp} {bs0 : List Addr} {env : Env} {ts : List (V × W)} {σ : St} {G : Gh} {H : Hp} {v : V} {i : Bool} (x : Ok K H0 F0 bs0 env ((v, .val (.bool i)) :: ts) σ G H) : v = .bl i := by
  have r : Rp K G.F v (.bool i) := x.temps.1
  cases r; rfl
/-- a value that is to be a bool -/
def boolD (Q : Bool → Env → Prop) : W → Env → Prop
  | .val (.bool b), e => Q b e
  | _, _ => False
theorem boolD_inv {Q : Bool → Env → Prop} {w : W} {e : Env} (h : boolD Q w e) : ∃ b, w = .val (.bool b) ∧ Q b e := by
  unfold boolD at h
  split at h
  · exact ⟨_, rfl, h⟩
  · exact h.elim
theorem ht_cmp {op : CmpOp} {a b : Expr} {pos : Pos} {env : Env} {Q : Bool → Env → Prop} (ho : OpR X (compareOp op) r) (hd : OpD X.K r f) (hm : behindInMarks op b = false) (h : HX X a env fun w1 e1 => HX X b e1 fun w2 e2 => f w1 w2 fun w => boolD Q w e2) :
    HT X (.Compare a [op] [b] pos) env Q := fun H0 F0 bs0 ts σ G H Q' x post => by
  refine PT.wk (pt_cmpR ho wkE_ok wkE_ok hm) ?_
  exact h _ _ _ _ _ _ _ _ x fun v1 w1 env1 G1 H1 q1 x1 => q1 _ _ _ _ _ _ _ _ x1 fun v2 w2 env2 G2 H2 q2 x2 => hd x2 q2 fun v w G' H' hn hq hx => by
    obtain ⟨b, rfl, q⟩ := boolD_inv hq
    exact ⟨b, hx.bool1, post b env2 G' H' q hx.pop⟩
end

/-! ### arguments -/
section
variable {X : Cx} {e : Expr} {es : List Expr} {env : Env}
theorem ha_nil {Q : List W → Env → Prop} (q : Q [] env) : HA X [] env Q := fun H0 F0 bs0 ts σ G H Q' x post => PA.wk pa_nil (post [] [] env G H rfl q x)
/-- one's own becomes data -/
def W.fz : W → W
  | .own ds => .val (.list ds)
  | w => w
theorem Ok.fzTop {K : PySem.W.Frag} {H0 F0 H : Hp} {bs0 : List Addr} {env : Env} {ts : List (V × W)} {σ : St} {G : Gh} {v : V} {w : W} (x : Ok K H0 F0 bs0 env ((v, w) :: ts) σ G H) :
    ∃ G', Ok K H0 F0 bs0 env ((v, w.fz) :: ts) σ G' H := by
  cases w with
  | own ds => obtain ⟨G', y, _⟩ := x.frzTop (fun _ h => by cases h); exact ⟨G', y⟩
  | val d => exact ⟨G, x⟩
  | bor d => exact ⟨G, x⟩
  | bag d => exact ⟨G, x⟩
  | scr d => exact ⟨G, x⟩
  | ty d => exact ⟨G, x⟩
theorem ha_cons {Q : List W → Env → Prop} (hs : starEach (e :: es) X.env = (false, eval e X.env) :: starEach es X.env) (h : HX X e env fun w e1 => HA X es e1 fun ws e2 => Q (w.fz :: ws) e2) : HA X (e :: es) env Q := fun H0 F0 bs0 ts σ G H Q' x post => by
  refine PA.wk (pa_cons wkE_ok wkA_ok hs) ?_
  refine h _ _ _ _ _ _ _ _ x fun v1 w1 env1 G1 H1 q1 x1 => ?_
  obtain ⟨G2, x2⟩ := x1.fzTop
  exact q1 _ _ _ _ _ _ _ _ x2 fun vs ws env2 G3 H3 hl q2 x3 => post (v1 :: vs) (w1.fz :: ws) env2 G3 H3 (by simp [hl]) q2 x3
end

/-! ### what a def promises -/
abbrev Spec := List W → (W → Prop) → Prop
def PR (K : PySem.W.Frag) (F : Hp) (bs : List Addr) (v : V) : W → Prop
  | .val d => Rp K F v d
  | .bag k => ∃ a, v = .ref a ∧ bs[k]? = some a
  | .scr ns => ∃ a, v = .ref a ∧ SqL K F a (ns.map V.int)
  | .ty n => v = .ty n
  | _ => False
def PRs (K : PySem.W.Frag) (F : Hp) (bs : List Addr) : List V → List W → Prop
  | [], [] => True
  | v :: vs, w :: ws => PR K F bs v w ∧ PRs K F bs vs ws
  | _, _ => False
def permW : W → Prop
  | .own _ => False
  | .bor _ => False
  | _ => True
theorem PRs.len {K : PySem.W.Frag} {F : Hp} {bs : List Addr} : ∀ {vs : List V} {ws : List W}, PRs K F bs vs ws → vs.length = ws.length
  | [], [], _ => rfl
  | _ :: _, _ :: _, h => congrArg (· + 1) (PRs.len h.2)
  | [], _ :: _, h => h.elim
  | _ :: _, [], h => h.elim
theorem temps_zipR {K : PySem.W.Frag} {H0 H : Hp} {G : Gh} : ∀ {vs : List V} {ws : List W} {ts : List (V × W)}, vs.length = ws.length → (∀ w ∈ ws, permW w) → TsOk K H0 G H (zipR vs ws ts) → PRs K G.F G.bs vs ws ∧ TsOk K H0 G H ts
  | [], [], ts, _, _, h => ⟨trivial, h⟩
  | v :: vs, w :: ws, ts, hl, hp, h => by
    obtain ⟨q1, q2⟩ := temps_zipR (vs := vs) (ws := ws) (ts := (v, w) :: ts) (by simpa using hl) (fun w' hw => hp w' (List.mem_cons_of_mem _ hw)) h
    refine ⟨⟨?_, q1⟩, q2.2⟩
    have := q2.1
    cases w with
    | val d => exact this
    | bag k => exact this
    | scr k => exact this
    | ty k => exact this
    | own ds => exact (hp _ List.mem_cons_self).elim
    | bor ds => exact (hp _ List.mem_cons_self).elim
  | [], _ :: _, _, hl, _, _ => by simp at hl
  | _ :: _, [], _, hl, _, _ => by simp at hl
theorem temps_drop {K : PySem.W.Frag} {H0 H : Hp} {G : Gh} : ∀ {vs : List V} {ws : List W} {ts : List (V × W)}, vs.length = ws.length → TsOk K H0 G H (zipR vs ws ts) → TsOk K H0 G H ts
  | [], [], ts, _, h => h
  | v :: vs, w :: ws, ts, hl, h => (temps_drop (vs := vs) (ws := ws) (ts := (v, w) :: ts) (by simpa using hl) h).2
  | [], _ :: _, _, hl, _ => by simp at hl
  | _ :: _, [], _, hl, _ => by simp at hl
theorem Ok.dropA {K : PySem.W.Frag} {H0 F0 H : Hp} {bs0 : List Addr} {env : Env} {ts : List (V × W)} {σ : St} {G : Gh} {vs : List V} {ws : List W} (hl : vs.length = ws.length) (x : Ok K H0 F0 bs0 env (zipR vs ws ts) σ G H) : Ok K H0 F0 bs0 env ts σ G H :=
  ⟨x.len, x.sub, x.ext, x.f0, x.fnew, x.bpre, x.bok, x.ow, x.slots, temps_drop hl x.temps⟩

def spOf (K : PySem.W.Frag) (sp : Spec) : Sp := fun vs H Q _ => ∃ (F : Hp) (bs : List Addr) (ws : List W), Same F H ∧ (∀ a ∈ bs, BagAt H a ∧ F a = none) ∧ PRs K F bs vs ws ∧
  ∃ P, sp ws P ∧ ∀ w, P w → ∀ v G' H', nb w → Ok K H F bs [] [(v, w)] [] G' H' → Q v H'

/-- behind a call -/
theorem Ok.behind {K : PySem.W.Frag} {H0 F0 H H2 : Hp} {bs0 : List Addr} {env : Env} {ts : List (V × W)} {σ : St} {G G2 : Gh} {v : V} {w : W} (x : Ok K H0 F0 bs0 env ts σ G H) (hn : nb w) (y : Ok K H G.F G.bs [] [(v, w)] [] G2 H2) :
    ∃ G3, Ok K H0 F0 bs0 env ((v, w) :: ts) σ G3 H2 := by
  have noO : ∀ a, H a = none → G.O a = none := fun a ha => by
    cases e : G.O a with
    | none => rfl
    | some h => obtain ⟨o, q⟩ := x.ow a h e; rw [ha] at q; cases q
  obtain ⟨l, hl⟩ := y.bpre
  have hbs : ∀ a h, G.O a = some h → a ∉ G.bs := fun a h e z => by have := (x.bok a z).2.2.1; rw [e] at this; cases this
  let O3 : Addr → Option Holder := fun a => match G.O a with
    | some h => some h
    | none => if G2.O a = some (.inr 0) then some (.inr ts.length) else none
  have o1 : ∀ a h, G.O a = some h → O3 a = some h := fun a h e => by show (match G.O a with | some h => some h | none => _) = _; rw [e]
  have o2 : ∀ a, G.O a = none → O3 a = if G2.O a = some (.inr 0) then some (.inr ts.length) else none := fun a e => by show (match G.O a with | some h => some h | none => _) = _; rw [e]
  have f : Fro G H { F := G2.F, bs := G2.bs, O := O3 } H2 := ⟨y.f0, ⟨l, hl⟩, o1, fun a h o e q => y.ext a o (hbs a h e) q⟩
  have hN : ∀ a h, G.O a = some h → G.F a = none → G2.F a = none := fun a h e z => by
    cases q : G2.F a with
    | none => rfl
    | some u =>
      have := y.fnew a u q z
      obtain ⟨o, q2⟩ := x.ow a h e
      rw [this] at q2; cases q2
  refine ⟨{ F := G2.F, bs := G2.bs, O := O3 }, ⟨x.len, y.sub, fun a o nb q => ?_, x.f0.trans y.f0, fun a u q z => ?_, ?_, fun a ha => ?_, fun a h e => ?_, fun i w hw => ?_, ?_, ?_⟩⟩
  · have q1 := x.ext a o nb q
    refine y.ext a o (fun z => ?_) q1
    rcases (x.bok a z).2.2.2 with z | z
    · exact nb z
    · rw [q] at z; cases z
  · cases e : G.F a with
    | some u' => exact x.fnew a u' e z
    | none => exact x.fresh (y.fnew a u q e)
  · obtain ⟨l0, h0⟩ := x.bpre
    exact ⟨l0 ++ l, by show G2.bs = _; rw [hl, h0, List.append_assoc]⟩
  · obtain ⟨q1, q2, q3, q4⟩ := y.bok a ha
    have q5 : G.O a = none := by
      rcases q4 with q4 | q4
      · exact (x.bok a q4).2.2.1
      · exact noO a q4
    refine ⟨q1, q2, ?_, ?_⟩
    · show O3 a = none
      rw [o2 a q5, q3]; rfl
    · rcases q4 with q4 | q4
      · exact (x.bok a q4).2.2.2
      · exact .inr (x.fresh q4)
  · have e : O3 a = some h := e
    cases q : G.O a with
    | some h' =>
      obtain ⟨o, q2⟩ := x.ow a h' q
      exact ⟨o, y.ext a o (hbs a h' q) q2⟩
    | none =>
      rw [o2 a q] at e
      by_cases c : G2.O a = some (.inr 0)
      · exact y.ow a _ c
      · rw [if_neg c] at e; cases e
  · obtain ⟨nb', v', e', r'⟩ := x.slots i w hw
    exact ⟨nb', v', e', r'.keep f fun a e z => hN a _ e z⟩
  · have r := y.temps.1
    cases w with
    | val d => exact r
    | bag k => exact r
    | scr k => exact r
    | ty k => exact r
    | bor ds => exact absurd rfl (hn ds)
    | own ds =>
      obtain ⟨a, vs, e, o, ha, fa, h0, ra⟩ := r
      refine ⟨a, vs, e, ?_, ha, fa, x.fresh h0, ra⟩
      show O3 a = _
      rw [o2 a (noO a h0), if_pos (show G2.O a = some (.inr 0) from o)]
  · exact TsOk.keep f (fun a n _ e z => hN a _ e z) x.temps

/-- what is known of a def of the module: a call with all arguments by place -/
structure Fact (P : Program) (w : World) (K : PySem.W.Frag) (mg : Str → Option Value) (base : Heap) (k : Nat) (x : Str) (ar : Nat) (sp : Spec) : Prop where
  ex : ∃ (f : Addr) (fd : FuncData) (ps : List Str) (ds : List Value) (dvs : List V), ps.length = ar ∧ mg x = some (.ref f) ∧ PySem.W.keepIn K (.ref f) = true ∧ Binds K fd ps [] ∧ FnOk P w K mg base CX0 k f fd ps (spOf K sp)
theorem Fact.mono {P : Program} {w : World} {K : PySem.W.Frag} {mg : Str → Option Value} {base : Heap} {j k : Nat} {x : Str} {ar : Nat} {sp : Spec} (F : Fact P w K mg base j x ar sp) (h : j ≤ k) : Fact P w K mg base k x ar sp := by
  obtain ⟨f, fd, ps, ds, dvs, a, b, c, d, e⟩ := F.ex
  exact ⟨f, fd, ps, ds, dvs, a, b, c, d, e.mono h⟩
section
variable {X : Cx} {e : Expr} {es : List Expr} {env : Env} {k : Nat} {x : Str} {ar : Nat} {sp : Spec}
theorem he_call {p pos : Pos} {Q : W → Env → Prop} (F : Fact X.prog X.w X.K X.mg X.base k x ar sp) (hr : Room k X.A) (hg : Gl X x) (hdb : (x == ("__debug__" : Str)) = false)
    (he : starEach (e :: es) X.env = (false, eval e X.env) :: starEach es X.env) (hpl : (backTo pos (starEach es X.env)).any (·.1) = false)
    (h : HA X (e :: es) env fun ws e2 => (∀ w ∈ ws, permW w) ∧ sp ws fun w => Q w e2) : HX X (.Call (.Name x p) (e :: es) [] pos) env (fun w e => nb w ∧ Q w e) := fun H0 F0 bs0 ts σ G H Q' y post => by
  obtain ⟨f, fd, ps, _, _, ha, hm, hk, hb, F⟩ := F.ex
  refine PE.wk (pe_call F hr hg hm hk hb .nil pass0 wkA_ok hdb he hpl) ?_
  refine h _ _ _ _ _ _ _ _ y fun vs ws env2 G2 H2 hl ⟨hp, q⟩ y2 => ?_
  rw [List.append_nil]
  refine ⟨G2.F, G2.bs, ws, y2.sub, fun a ha => ⟨(y2.bok a ha).1, (y2.bok a ha).2.1⟩, (temps_zipR hl hp y2.temps).1, _, q, fun w hw v G3 H3 hn y3 => ?_⟩
  obtain ⟨G4, y4⟩ := (y2.dropA hl).behind hn y3
  exact post v w env2 G4 H3 ⟨hn, hw⟩ y4
end
end Pw
/-! Pw3: operators, built-ins by their data. -/
namespace Pw
open PySem PySem.Spec PyProof.Rows L2

section
variable {K : PySem.W.Frag} {H0 F0 H : Hp} {bs0 : List Addr} {env : Env} {ts : List (V × W)} {σ : St} {G : Gh} {v u : V} {w : W} {X : Cx}

theorem Ok.seqTop {ds : List PD} (x : Ok K H0 F0 bs0 env ((v, w) :: ts) σ G H) (h : w.seq = some ds) : ∃ a vs, v = .ref a ∧ H a = some (.lst vs) ∧ RpA K G.F vs ds := by
  have r := x.temps.1
  cases w with
  | own es => cases h; obtain ⟨a, vs, e, _, ha, _, _, q⟩ := r; exact ⟨a, vs, e, ha, q⟩
  | bor es => cases h; obtain ⟨a, vs, _, e, _, ha, q⟩ := r; exact ⟨a, vs, e, ha, q⟩
  | val d =>
    cases d with
    | list es =>
      cases h
      cases (show Rp K G.F v (.list ds) from r) with
      | lst ha q => exact ⟨_, _, rfl, x.sub _ _ ha, q⟩
    | _ => cases h
  | _ => cases h
theorem Ok.itsTop {ds : List PD} (x : Ok K H0 F0 bs0 env ((v, w) :: ts) σ G H) (h : w.its = some ds) : ∃ a vs, v = .ref a ∧ (SqL K H a vs ∨ SqT K H a vs) ∧ RpA K G.F vs ds := by
  have r := x.temps.1
  cases w with
  | own es => cases h; obtain ⟨a, vs, e, _, ha, _, _, q⟩ := r; exact ⟨a, vs, e, .inl (SqL.of ha), q⟩
  | bor es => cases h; obtain ⟨a, vs, _, e, _, ha, q⟩ := r; exact ⟨a, vs, e, .inl (SqL.of ha), q⟩
  | val d =>
    cases d with
    | list es =>
      cases h
      cases (show Rp K G.F v (.list ds) from r) with
      | lst ha q => exact ⟨_, _, rfl, .inl (SqL.of (x.sub _ _ ha)), q⟩
    | tuple es =>
      cases h
      cases (show Rp K G.F v (.tuple ds) from r) with
      | tup ha q => exact ⟨_, _, rfl, .inr (same_tup x.sub ha), q⟩
    | _ => cases h
  | _ => cases h
theorem Ok.tupTop {ds : List PD} (x : Ok K H0 F0 bs0 env ((v, .val (.tuple ds)) :: ts) σ G H) : ∃ a vs, v = .ref a ∧ SqT K H a vs ∧ RpA K G.F vs ds := by
  have r : Rp K G.F v (.tuple ds) := x.temps.1
  cases r with
  | tup ha q => exact ⟨_, _, rfl, same_tup x.sub ha, q⟩
theorem Ok.dpTop {d : PD} (x : Ok K H0 F0 bs0 env ((v, w) :: ts) σ G H) (h : w.pd = some d) : Dp K H v d := by
  have r := x.temps.1
  cases w with
  | own es => cases h; obtain ⟨a, vs, e, _, ha, _, _, q⟩ := r; rw [show v = V.ref a from e]; exact .lst (SqL.of ha) (q.dp x.sub)
  | bor es => cases h; obtain ⟨a, vs, _, e, _, ha, q⟩ := r; rw [show v = V.ref a from e]; exact .lst (SqL.of ha) (q.dp x.sub)
  | val e => cases h; exact Rp.dp x.sub r
  | _ => cases h

/-! ### + -/
def addD : W → W → (W → Prop) → Prop
  | .val (.int i), .val (.int j), P => P (.val (.int (i + j)))
  | .val (.str i), .val (.str j), P => i.length + j.length ≤ sizeLine ∧ P (.val (.str (i ++ j)))
  | .val (.tuple i), .val (.tuple j), P => i.length + j.length ≤ sizeLine ∧ P (.val (.tuple (i ++ j)))
  | a, b, P => match a.seq, b.seq with
    | some xs, some ys => xs.length + ys.length ≤ sizeLine ∧ P (.own (xs ++ ys))
    | _, _ => False
def rAddA (K : PySem.W.Frag) : R2 := fun x y H Q => rI0 (fun i j => .int (i + j)) x y H Q ∨ (∃ i j, x = .str i ∧ y = .str j ∧ i.length + j.length ≤ sizeLine ∧ Q (.str (i ++ j)) H) ∨ rCatA K x y H Q ∨ rCat x y H Q
theorem op_addA : OpR X (binaryOp .Add) (rAddA X.K) := OpR.or op_add (OpR.or op_add_str (OpR.or op_catA op_cat))
theorem addD_ok : OpD K (rAddA K) addD := fun {H0 F0 bs0 env ts σ G H v1 v2 w1 w2 P Q'} x q p => by
  unfold addD at q
  split at q
  · exact .inl ⟨_, _, x.int2, x.int1, p _ _ _ _ nb_val q (x.pop.pop.pushV (.int _))⟩
  · exact .inr (.inl ⟨_, _, x.pop.str1, x.str1, q.1, p _ _ _ _ nb_val q.2 (x.pop.pop.pushV (.str _))⟩)
  · obtain ⟨a, vs, e1, h1, r1⟩ := x.pop.tupTop
    obtain ⟨b, us, e2, h2, r2⟩ := x.tupTop
    refine .inr (.inr (.inl ⟨a, b, vs, us, e1, e2, h1, h2, by rw [r1.len, r2.len]; exact q.1, fun hx => ?_, fun hx hy => ?_, fun hx hy c hc => ?_⟩))
    · subst hx
      cases r1
      rw [← e2]
      refine p _ _ _ _ nb_val q.2 (x.pop.pop.pushV ?_)
      exact x.temps.1
    · subst hy
      cases r2
      rw [← e1]
      refine p _ _ _ _ nb_val q.2 (x.pop.pop.pushV ?_)
      rw [List.append_nil]
      exact x.pop.temps.1
    · exact p _ _ _ _ nb_val q.2 (x.pop.pop.newT hc (r1.app r2))
  · split at q
    · rename_i xs ys hx hy
      obtain ⟨a, vs, e1, h1, r1⟩ := x.pop.seqTop hx
      obtain ⟨b, us, e2, h2, r2⟩ := x.seqTop hy
      exact .inr (.inr (.inr ⟨a, b, vs, us, e1, e2, h1, h2, by rw [r1.len, r2.len]; exact q.1, fun c hc => p _ _ _ _ nb_own q.2 (x.pop.pop.newL hc (r1.app r2))⟩))
    · exact q.elim

/-! ### == -/
def shp (d : PD) : Prop := SeqAt.shaped d = true
def eqD : W → W → (W → Prop) → Prop := fun a b P => match a.pd, b.pd with
  | some d, some e => shp d ∧ shp e ∧ P (.val (.bool (PyData.eqv d e)))
  | _, _ => False
def neD : W → W → (W → Prop) → Prop := fun a b P => match a.pd, b.pd with
  | some d, some e => shp d ∧ shp e ∧ P (.val (.bool (!PyData.eqv d e)))
  | _, _ => False
theorem eqD_ok : OpD K (rEqD K) eqD := fun {H0 F0 bs0 env ts σ G H v1 v2 w1 w2 P Q'} x q p => by
  unfold eqD at q
  split at q
  · rename_i d e h1 h2
    exact ⟨d, e, x.pop.dpTop h1, x.dpTop h2, q.1, q.2.1, p _ _ _ _ nb_val q.2.2 (x.pop.pop.pushV (.bl _))⟩
  · exact q.elim
theorem neD_ok : OpD K (rNeD K) neD := fun {H0 F0 bs0 env ts σ G H v1 v2 w1 w2 P Q'} x q p => by
  unfold neD at q
  split at q
  · rename_i d e h1 h2
    exact ⟨d, e, x.pop.dpTop h1, x.dpTop h2, q.1, q.2.1, p _ _ _ _ nb_val q.2.2 (x.pop.pop.pushV (.bl _))⟩
  · exact q.elim

/-! ### in -/
def flatD : PD → Bool
  | .none => true
  | .bool _ => true
  | .int _ => true
  | .str _ => true
  | _ => false
theorem Rp.flat {F : Hp} {d : PD} (h : Rp K F v d) : flatV v = flatD d := by cases h <;> rfl
theorem RpA.flat {F : Hp} : ∀ {vs : List V} {ds : List PD}, RpA K F vs ds → vs.all flatV = ds.all flatD
  | _, _, .nil => rfl
  | _, _, .cons h r => by rw [List.all_cons, List.all_cons, h.flat, r.flat]
theorem eqV_eqv {F : Hp} {d e : PD} (h : Rp K F v d) (h' : Rp K F u e) (hd : flatD d = true) (he : flatD e = true) : eqV v u = PyData.eqv d e := by
  cases h <;> cases h' <;> first | (cases hd; done) | (cases he; done) | (simp [eqV, PyData.eqv])
theorem inV_any {F : Hp} {d : PD} (h : Rp K F v d) (hd : flatD d = true) : ∀ {vs : List V} {ds : List PD}, RpA K F vs ds → ds.all flatD = true → inV v vs = ds.any fun e => PyData.eqv e d
  | _, _, .nil, _ => rfl
  | _, _, .cons h' r, ha => by
    rw [List.all_cons, Bool.and_eq_true] at ha
    have ih := inV_any h hd r ha.2
    unfold inV at ih ⊢
    rw [List.any_cons, List.any_cons, ih, eqV_eqv h' h ha.1 hd]
def inD (neg : Bool) : W → W → (W → Prop) → Prop := fun a b P => match a.pd, b.its with
  | some d, some es => flatD d = true ∧ es.all flatD = true ∧ P (.val (.bool (neg != es.any fun e => PyData.eqv e d)))
  | _, _ => False
theorem bne_b (a b : Bool) : (if a = true then !b else b) = (a != b) := by cases a <;> cases b <;> rfl
theorem inD_ok {neg : Bool} : OpD K (rIn K neg) (inD neg) := fun {H0 F0 bs0 env ts σ G H v1 v2 w1 w2 P Q'} x q p => by
  unfold inD at q
  split at q
  · rename_i d es h1 h2
    obtain ⟨q1, q2, q3⟩ := q
    obtain ⟨a, vs, e, hs, r⟩ := x.itsTop h2
    have rd : Rp K G.F v1 d := by
      have r := x.pop.temps.1
      cases w1 with
      | val d' => cases h1; exact r
      | own ds => cases h1; cases q1
      | bor ds => cases h1; cases q1
      | _ => cases h1
    refine ⟨a, vs, e, hs, rd.flat.trans q1, r.flat.trans q2, ?_⟩
    rw [bne_b, inV_any rd q1 r q2]
    exact p _ _ _ _ nb_val q3 (x.pop.pop.pushV (.bl _))
  · exact q.elim

/-! ### is None -/
def isNon : W → Bool
  | .val .none => true
  | _ => false
theorem Ok.nonTop (x : Ok K H0 F0 bs0 env ((v, w) :: ts) σ G H) : decide (v = V.non) = isNon w := by
  have r := x.temps.1
  cases w with
  | val d =>
    have r : Rp K G.F v d := r
    cases r <;> rfl
  | own ds => obtain ⟨a, vs, e, _⟩ := r; rw [show v = V.ref a from e]; rfl
  | bor ds => obtain ⟨a, vs, _, e, _⟩ := r; rw [show v = V.ref a from e]; rfl
  | bag k => obtain ⟨a, e, _⟩ := r; rw [show v = V.ref a from e]; rfl
  | scr k => obtain ⟨a, e, _⟩ := r; rw [show v = V.ref a from e]; rfl
  | ty k => rw [show v = V.ty k from r]; rfl

/-! ### a[i] -/
theorem atI_rp {F : Hp} {vs : List V} {ds : List PD} {i : Int} {d : PD} (r : RpA K F vs ds) (h : atI ds i = some d) : ∃ v, atI vs i = some v ∧ Rp K F v d := by
  unfold atI at h ⊢
  rw [r.len]
  cases e : ixN ds.length i with
  | none => rw [e] at h; cases h
  | some j =>
    rw [e] at h
    exact r.get h
/-- there is one, and it does -/
def oD {α : Type} (o : Option α) (P : α → Prop) (_ : Tk P := ⟨⟩) : Prop := ∃ d, o = some d ∧ P d
theorem oD_some {α : Type} {d : α} {P : α → Prop} : oD (some d) P = P d := by
  unfold oD
  exact propext ⟨fun ⟨e, h, q⟩ => by cases h; exact q, fun q => ⟨d, rfl, q⟩⟩
def ixD : W → W → (W → Prop) → Prop
  | .val (.str z), .val (.int i), P => z.length ≤ sizeLine ∧ oD (atI z.cps.toList i) fun c => P (.val (.str ⟨#[c]⟩))
  | .scr ns, .val (.int i), P => oD (atI ns i) fun n => P (.val (.int n))
  | .val (.list es), .val (.int i), P => oD (atI es i) fun d => P (.val d)
  | .val (.tuple es), .val (.int i), P => oD (atI es i) fun d => P (.val d)
  | .own es, .val (.int i), P => oD (atI es i) fun d => P (.val d)
  | .bor es, .val (.int i), P => oD (atI es i) fun d => P (.val d)
  | _, _, _ => False
theorem ix_go {v1 v2 : V} {w1 : W} {es : List PD} {i : Int} {P : W → Prop} {Q' : VK} (x : Ok K H0 F0 bs0 env ((v2, .val (.int i)) :: (v1, w1) :: ts) σ G H) (he : w1.its = some es) (q : oD (atI es i) fun d => P (.val d))
    (p : ∀ v w G' H', nb w → P w → Ok K H0 F0 bs0 env ((v, w) :: ts) σ G' H' → Q' v H') : rIx K v1 v2 H Q' := by
  obtain ⟨d, hd, q⟩ := q
  obtain ⟨a, vs, e, hs, r⟩ := x.pop.itsTop he
  obtain ⟨v, h1, h2⟩ := atI_rp r hd
  rcases hs with hs | hs
  · exact .inl ⟨a, vs, _, v, e, x.int1, hs, h1, p _ _ _ _ nb_val q (x.pop.pop.pushV h2)⟩
  · exact .inr (.inl ⟨a, vs, _, v, e, x.int1, hs, h1, p _ _ _ _ nb_val q (x.pop.pop.pushV h2)⟩)
theorem ixD_ok : OpD K (rIx K) ixD := fun {H0 F0 bs0 env ts σ G H v1 v2 w1 w2 P Q'} x q p => by
  unfold ixD at q
  split at q
  · obtain ⟨q1, c, hc, q⟩ := q
    exact .inr (.inr ⟨_, _, c, x.pop.str1, x.int1, q1, hc, p _ _ _ _ nb_val q (x.pop.pop.pushV (.str _))⟩)
  · obtain ⟨n, hc, q⟩ := q
    obtain ⟨a, e, hs⟩ := x.pop.temps.1
    refine .inl ⟨a, _, _, .int n, e, x.int1, x.sub.seq hs, ?_, p _ _ _ _ nb_val q (x.pop.pop.pushV (.int _))⟩
    unfold atI at hc ⊢
    rw [List.length_map]
    cases e : ixN _ _ with
    | none => rw [e] at hc; cases hc
    | some j =>
      rw [e] at hc
      show (List.map V.int _)[j]? = _
      rw [List.getElem?_map, show _[j]? = some n from hc]; rfl
  · exact ix_go x rfl q p
  · exact ix_go x rfl q p
  · exact ix_go x rfl q p
  · exact ix_go x rfl q p
  · exact q.elim

/-! ### truth -/
def truD : W → (Bool → Prop) → Prop
  | .val .none, P => P false
  | .val (.bool b), P => P b
  | .val (.int i), P => P (i != 0)
  | .val (.str s), P => s.length ≤ sizeLine ∧ P ((s.length : Int) != 0)
  | w, P => match w.its with
    | some ds => P (!ds.isEmpty)
    | none => False
theorem truD_ok {P : Bool → Prop} (x : Ok K H0 F0 bs0 env ((v, w) :: ts) σ G H) (q : truD w P) : ∃ k, TruV K v H k ∧ P k := by
  unfold truD at q
  split at q
  · cases (show Rp K G.F v _ from x.temps.1); exact ⟨_, rfl, q⟩
  · cases (show Rp K G.F v _ from x.temps.1); exact ⟨_, rfl, q⟩
  · cases (show Rp K G.F v _ from x.temps.1); exact ⟨_, rfl, q⟩
  · cases (show Rp K G.F v _ from x.temps.1); exact ⟨_, ⟨q.1, rfl⟩, q.2⟩
  · split at q
    · rename_i ds hd
      obtain ⟨a, vs, e, hs, r⟩ := x.itsTop hd
      have hh : vs.isEmpty = ds.isEmpty := by
        have := r.len
        cases vs <;> cases ds <;> first | rfl | (simp at this)
      subst e
      rcases hs with hs | hs
      · exact ⟨!vs.isEmpty, .inl ⟨vs, hs, rfl⟩, by rw [hh]; exact q⟩
      · exact ⟨!vs.isEmpty, .inr (.inl ⟨vs, hs, rfl⟩), by rw [hh]; exact q⟩
    · exact q.elim

/-! ### built-ins -/
theorem zip1 {vs : List V} {ws : List W} {w : W} (hl : vs.length = ws.length) (e : ws = [w]) : ∃ v, vs = [v] := by
  subst e
  match vs, hl with
  | [v], _ => exact ⟨v, rfl⟩
theorem zip2 {vs : List V} {ws : List W} {w w' : W} (hl : vs.length = ws.length) (e : ws = [w, w']) : ∃ v v', vs = [v, v'] := by
  subst e
  match vs, hl with
  | [v, v'], _ => exact ⟨v, v', rfl⟩
def lenD : List W → (W → Prop) → Prop
  | [.val (.str s)], P => s.length ≤ sizeLine ∧ P (.val (.int s.length))
  | [.scr ns], P => P (.val (.int ns.length))
  | [w], P => match w.its with
    | some ds => P (.val (.int ds.length))
    | none => False
  | _, _ => False
def rLenA (K : PySem.W.Frag) : List V → Hp → VK → Prop := fun xs H Q => ∃ x n, xs = [x] ∧ LenV K x H n ∧ Q (.int n) H
theorem lenD_ok : CallD K (rLenA K) lenD := fun {H0 F0 bs0 env ts σ G H vs ws P Q'} hl x q p => by
  unfold lenD at q
  split at q
  · obtain ⟨v, rfl⟩ := zip1 hl rfl
    cases (show Rp K G.F v _ from x.temps.1)
    exact ⟨_, _, rfl, ⟨q.1, rfl⟩, p _ _ _ _ nb_val q.2 (x.pop.pushV (.int _))⟩
  · obtain ⟨v, rfl⟩ := zip1 hl rfl
    obtain ⟨a, e, hs⟩ := x.temps.1
    refine ⟨_, _, rfl, ?_, p _ _ _ _ nb_val q (x.pop.pushV (.int _))⟩
    rw [show v = V.ref a from e]
    exact .inl ⟨_, x.sub.seq hs, by rw [List.length_map]⟩
  · obtain ⟨v, rfl⟩ := zip1 hl rfl
    split at q
    · rename_i ds hd
      obtain ⟨a, us, e, hs, r⟩ := Ok.itsTop x hd
      refine ⟨_, _, rfl, ?_, p _ _ _ _ nb_val q (x.pop.pushV (.int _))⟩
      rw [e, ← r.len]
      rcases hs with hs | hs
      · exact .inl ⟨us, hs, rfl⟩
      · exact .inr ⟨us, hs, rfl⟩
    · exact q.elim
  · exact q.elim
def min2D : List W → (W → Prop) → Prop
  | [.val (.int i), .val (.int j)], P => P (.val (.int (min i j)))
  | _, _ => False
def max2D : List W → (W → Prop) → Prop
  | [.val (.int i), .val (.int j)], P => P (.val (.int (max i j)))
  | _, _ => False
def rMin2 : List V → Hp → VK → Prop := fun xs H Q => ∃ i j, xs = [.int i, .int j] ∧ Q (.int (if j < i then j else i)) H
def rMax2 : List V → Hp → VK → Prop := fun xs H Q => ∃ i j, xs = [.int i, .int j] ∧ Q (.int (if j > i then j else i)) H
theorem min2D_ok : CallD K rMin2 min2D := fun {H0 F0 bs0 env ts σ G H vs ws P Q'} hl x q p => by
  unfold min2D at q
  split at q
  · obtain ⟨v, v', rfl⟩ := zip2 hl rfl
    rename_i _ i j
    refine ⟨i, j, ?_, ?_⟩
    · rw [show v = V.int i from Ok.int2 x, show v' = V.int j from Ok.int1 x]
    · have e : (if j < i then j else i) = min i j := by rw [Int.min_def]; split <;> split <;> omega
      rw [e]
      exact p _ _ _ _ nb_val q (x.pop.pop.pushV (.int _))
  · exact q.elim
theorem max2D_ok : CallD K rMax2 max2D := fun {H0 F0 bs0 env ts σ G H vs ws P Q'} hl x q p => by
  unfold max2D at q
  split at q
  · obtain ⟨v, v', rfl⟩ := zip2 hl rfl
    rename_i _ i j
    refine ⟨i, j, ?_, ?_⟩
    · rw [show v = V.int i from Ok.int2 x, show v' = V.int j from Ok.int1 x]
    · have e : (if j > i then j else i) = max i j := by rw [Int.max_def]; split <;> split <;> omega
      rw [e]
      exact p _ _ _ _ nb_val q (x.pop.pop.pushV (.int _))
  · exact q.elim
def intD : List W → (W → Prop) → Prop
  | [.val (.int i)], P => P (.val (.int i))
  | [.val (.bool b)], P => P (.val (.int (if b then 1 else 0)))
  | _, _ => False
def rIntA : List V → Hp → VK → Prop := fun xs H Q => (∃ i, xs = [.int i] ∧ Q (.int i) H) ∨ ∃ k, xs = [.bl k] ∧ Q (.int (if k then 1 else 0)) H
theorem intD_ok : CallD K rIntA intD := fun {H0 F0 bs0 env ts σ G H vs ws P Q'} hl x q p => by
  unfold intD at q
  split at q
  · obtain ⟨v, rfl⟩ := zip1 hl rfl
    cases (show Rp K G.F v _ from x.temps.1)
    exact .inl ⟨_, rfl, p _ _ _ _ nb_val q (x.pop.pushV (.int _))⟩
  · obtain ⟨v, rfl⟩ := zip1 hl rfl
    cases (show Rp K G.F v _ from x.temps.1)
    exact .inr ⟨_, rfl, p _ _ _ _ nb_val q (x.pop.pushV (.int _))⟩
  · exact q.elim
def sumD : List W → (W → Prop) → Prop
  | [w], P => ∃ ns : List Int, w.seq = some (ns.map .int) ∧ P (.val (.int ns.sum))
  | _, _ => False
theorem sumD_ok : CallD K (rSum K) sumD := fun {H0 F0 bs0 env ts σ G H vs ws P Q'} hl x q p => by
  unfold sumD at q
  split at q
  · obtain ⟨v, rfl⟩ := zip1 hl rfl
    obtain ⟨ns, e, q⟩ := q
    obtain ⟨a, us, e2, ha, r⟩ := Ok.seqTop x e
    refine ⟨a, ns, by rw [e2], by rw [← r.ints]; exact SqL.of ha, p _ _ _ _ nb_val q (x.pop.pushV (.int _))⟩
  · exact q.elim
def allD (f : List Bool → Bool) : List W → (W → Prop) → Prop
  | [w], P => ∃ ns : List Bool, w.seq = some (ns.map .bool) ∧ P (.val (.bool (f ns)))
  | _, _ => False
theorem allD_ok : CallD K (rAll K) (allD fun bs => bs.all id) := fun {H0 F0 bs0 env ts σ G H vs ws P Q'} hl x q p => by
  unfold allD at q
  split at q
  · obtain ⟨v, rfl⟩ := zip1 hl rfl
    obtain ⟨ns, e, q⟩ := q
    obtain ⟨a, us, e2, ha, r⟩ := Ok.seqTop x e
    refine ⟨a, ns, by rw [e2], by rw [← r.bls]; exact SqL.of ha, p _ _ _ _ nb_val q (x.pop.pushV (.bl _))⟩
  · exact q.elim
theorem anyD_ok : CallD K (rAny K) (allD fun bs => bs.any id) := fun {H0 F0 bs0 env ts σ G H vs ws P Q'} hl x q p => by
  unfold allD at q
  split at q
  · obtain ⟨v, rfl⟩ := zip1 hl rfl
    obtain ⟨ns, e, q⟩ := q
    obtain ⟨a, us, e2, ha, r⟩ := Ok.seqTop x e
    refine ⟨a, ns, by rw [e2], by rw [← r.bls]; exact SqL.of ha, p _ _ _ _ nb_val q (x.pop.pushV (.bl _))⟩
  · exact q.elim
def sortedD : List W → (W → Prop) → Prop
  | [w], P => ∃ ns : List Int, w.seq = some (ns.map .int) ∧ ∀ ns' : List Int, ns'.Perm ns → ns'.Pairwise (· ≤ ·) → P (.own (ns'.map .int))
  | _, _ => False
theorem sortedD_ok : CallD K (rSortedI K) sortedD := fun {H0 F0 bs0 env ts σ G H vs ws P Q'} hl x q p => by
  unfold sortedD at q
  split at q
  · obtain ⟨v, rfl⟩ := zip1 hl rfl
    obtain ⟨ns, e, q⟩ := q
    obtain ⟨a, us, e2, ha, r⟩ := Ok.seqTop x e
    refine ⟨a, ns, by rw [e2], by rw [← r.ints]; exact SqL.of ha, fun ns' c hp ho hc => p _ _ _ _ nb_own (q ns' hp ho) (x.pop.newL hc (RpA.ofInts ns'))⟩
  · exact q.elim
def tupleD : List W → (W → Prop) → Prop
  | [w], P => match w.its with
    | some ds => P (.val (.tuple ds))
    | none => False
  | _, _ => False
def rTupA (K : PySem.W.Frag) : List V → Hp → VK → Prop := fun xs H Q => ∃ p ys, xs = [.ref p] ∧ ((SqL K H p ys ∧ ∀ l, H l = none → Q (.ref l) (upd H l (.tup ys))) ∨ (SqT K H p ys ∧ Q (.ref p) H))
theorem tupleD_ok : CallD K (rTupA K) tupleD := fun {H0 F0 bs0 env ts σ G H vs ws P Q'} hl x q p => by
  unfold tupleD at q
  split at q
  · rename_i w
    obtain ⟨v, rfl⟩ := zip1 hl rfl
    split at q
    · rename_i ds hd
      cases hw : w with
      | val d =>
        rw [hw] at hd
        cases d with
        | tuple es =>
          cases hd
          rw [hw] at x
          have r : Rp K G.F v (.tuple ds) := x.temps.1
          obtain ⟨a, us, e2, hs, r'⟩ := Ok.tupTop x
          subst e2
          exact ⟨a, us, rfl, .inr ⟨hs, p _ _ _ _ nb_val q (x.pop.pushV r)⟩⟩
        | list es =>
          cases hd
          rw [hw] at x
          obtain ⟨a, us, e2, ha, r⟩ := Ok.seqTop (ds := ds) x rfl
          exact ⟨a, us, by rw [e2], .inl ⟨SqL.of ha, fun c hc => p _ _ _ _ nb_val q (x.pop.newT hc r)⟩⟩
        | _ => cases hd
      | own es =>
        rw [hw] at hd; cases hd
        rw [hw] at x
        obtain ⟨a, us, e2, ha, r⟩ := Ok.seqTop (ds := ds) x rfl
        exact ⟨a, us, by rw [e2], .inl ⟨SqL.of ha, fun c hc => p _ _ _ _ nb_val q (x.pop.newT hc r)⟩⟩
      | bor es =>
        rw [hw] at hd; cases hd
        rw [hw] at x
        obtain ⟨a, us, e2, ha, r⟩ := Ok.seqTop (ds := ds) x rfl
        exact ⟨a, us, by rw [e2], .inl ⟨SqL.of ha, fun c hc => p _ _ _ _ nb_val q (x.pop.newT hc r)⟩⟩
      | _ => rw [hw] at hd; cases hd
    · exact q.elim
  · exact q.elim
def listD : List W → (W → Prop) → Prop
  | [w], P => match w.its with
    | some ds => P (.own ds)
    | none => False
  | _, _ => False
def rListA (K : PySem.W.Frag) : List V → Hp → VK → Prop := fun xs H Q => ∃ p ys, xs = [.ref p] ∧ (SqL K H p ys ∨ SqT K H p ys) ∧ ∀ l, H l = none → Q (.ref l) (upd H l (.lst ys))
theorem listD_ok : CallD K (rListA K) listD := fun {H0 F0 bs0 env ts σ G H vs ws P Q'} hl x q p => by
  unfold listD at q
  split at q
  · obtain ⟨v, rfl⟩ := zip1 hl rfl
    split at q
    · rename_i ds hd
      obtain ⟨a, us, e, hs, r⟩ := Ok.itsTop x hd
      exact ⟨a, us, by rw [e], hs, fun c hc => p _ _ _ _ nb_own q (x.pop.newL hc r)⟩
    · exact q.elim
  · exact q.elim
/-- a value's class -/
def tyOf : W → Option String
  | .val .none => some "NoneType"
  | .val (.bool _) => some "bool"
  | .val (.int _) => some "int"
  | .val (.str _) => some "str"
  | .val (.list _) => some "list"
  | .val (.tuple _) => some "tuple"
  | .own _ => some "list"
  | .bor _ => some "list"
  | _ => none
theorem sqT_tyx {a : Addr} {vs : List V} (h : SqT K H a vs) : TyX K H (.ref a) (.type "tuple") := by
  rcases h with (h | ⟨o, h⟩) | ⟨o, its, n, h1, h2, _⟩
  · exact .base (.tup h)
  · exact .fTuple h
  · exact .kTuple h1 h2
theorem Ok.tyTop {t : String} (x : Ok K H0 F0 bs0 env ((v, w) :: ts) σ G H) (h : tyOf w = some t) : TyX K H v (.type t) := by
  have r := x.temps.1
  cases w with
  | val d =>
    have r : Rp K G.F v d := r
    cases r with
    | non => cases h; exact .base .non
    | bl b => cases h; exact .base (.bl b)
    | int b => cases h; exact .base (.int b)
    | str b => cases h; exact .base (.str b)
    | lst ha _ => cases h; exact .base (.lst (x.sub _ _ ha))
    | tup ha _ => cases h; exact sqT_tyx (same_tup x.sub ha)
  | own ds => cases h; obtain ⟨a, vs, e, _, ha, _⟩ := r; rw [show v = V.ref a from e]; exact .base (.lst ha)
  | bor ds => cases h; obtain ⟨a, vs, _, e, _, ha, _⟩ := r; rw [show v = V.ref a from e]; exact .base (.lst ha)
  | _ => cases h
def isiD : List W → (W → Prop) → Prop
  | [w, .ty n], P => match tyOf w with
    | some t => (match kitB t n with
      | some b => P (.val (.bool b))
      | none => False)
    | none => False
  | _, _ => False
theorem isiD_ok : CallD K (rIsi K) isiD := fun {H0 F0 bs0 env ts σ G H vs ws P Q'} hl x q p => by
  unfold isiD at q
  split at q
  · rename_i w n
    obtain ⟨v, v', rfl⟩ := zip2 hl rfl
    split at q
    · rename_i t ht
      split at q
      · rename_i b hb
        have e : v' = V.ty n := x.temps.1
        exact ⟨v, v', _, _, b, rfl, by rw [e]; exact .ty n, Ok.tyTop x.pop ht, kit_ty hb, p _ _ _ _ nb_val q (x.pop.pop.pushV (.bl _))⟩
      · exact q.elim
    · exact q.elim
  · exact q.elim
end
end Pw
/-! Pw4: expressions: how a piece of syntax is read over pure data. -/
namespace Pw
open PySem PySem.Spec PyProof.Rows L2

abbrev Phi := Env → (W → Env → Prop) → Prop
abbrev PhiT := Env → (Bool → Env → Prop) → Prop
abbrev PhiA := Env → (List W → Env → Prop) → Prop
abbrev PhiS := Env → DE → Prop
structure RE (X : Cx) (e : Expr) (φ : Phi) : Prop where
  go : ∀ env Q, φ env Q → HX X e env (fun w e => nb w ∧ Q w e)
instance {X : Cx} {e : Expr} {φ : Phi} : CoeFun (RE X e φ) (fun _ => ∀ env Q, φ env Q → HX X e env (fun w e => nb w ∧ Q w e)) := ⟨fun h => h.go⟩
/-- where the value is looked at alone -/
structure RB (X : Cx) (e : Expr) (φ : Phi) : Prop where
  go : ∀ env Q, φ env Q → HX X e env Q
instance {X : Cx} {e : Expr} {φ : Phi} : CoeFun (RB X e φ) (fun _ => ∀ env Q, φ env Q → HX X e env Q) := ⟨fun h => h.go⟩
structure RT (X : Cx) (e : Expr) (φ : PhiT) : Prop where
  go : ∀ env Q, φ env Q → HT X e env Q
instance {X : Cx} {e : Expr} {φ : PhiT} : CoeFun (RT X e φ) (fun _ => ∀ env Q, φ env Q → HT X e env Q) := ⟨fun h => h.go⟩
structure RA (X : Cx) (es : List Expr) (φ : PhiA) : Prop where
  go : ∀ env Q, φ env Q → HA X es env Q
instance {X : Cx} {e : List Expr} {φ : PhiA} : CoeFun (RA X e φ) (fun _ => ∀ env Q, φ env Q → HA X e env Q) := ⟨fun h => h.go⟩
theorem RE.b {X : Cx} {e : Expr} {φ : Phi} (h : RE X e φ) : RB X e φ := .mk fun env Q q => (h env Q q).mono fun _ _ z => z.2

section
variable {X : Cx} {e a b : Expr} {es : List Expr} {φ φa φb φc : Phi} {pos : Pos}

/-! ### no stars -/
def isStar : Expr → Bool
  | .Starred _ _ => true
  | _ => false
theorem star_of {a : Expr} {es : List Expr} {env : PySem.Env} (h : isStar a = false) : starEach (a :: es) env = (false, eval a env) :: starEach es env := by
  cases a <;> first | (cases h; done) | (simp only [starEach])
theorem star1 {a : Expr} {env : PySem.Env} (h : isStar a = false) : starEach [a] env = [(false, eval a env)] := by rw [star_of h]; simp only [starEach]
def noStars : List Expr → Bool
  | [] => true
  | e :: es => !isStar e && noStars es
theorem plain_of {pos : Pos} {env : PySem.Env} : ∀ {es : List Expr}, noStars es = true → (backTo pos (starEach es env)).any (·.1) = false
  | [], _ => by simp [starEach, backTo]
  | e :: es, h => by
    have h : (!isStar e && noStars es) = true := h
    rw [Bool.and_eq_true] at h
    rw [star_of (by simpa using h.1)]
    have ih := plain_of (pos := pos) (env := env) h.2
    simp only [backTo, List.map_cons, List.any_cons, Bool.false_or] at ih ⊢
    exact ih
/-! ### names, constants -/
def pVar (i : Nat) : Phi := fun env Q => match env[i]? with
  | some (some (.own ds)) => Q (.val (.list ds)) (env.set i (some (.val (.list ds))))
  | some (some w) => Q w env
  | _ => False
def pPeek (i : Nat) : Phi := fun env Q => match env[i]? with
  | some (some (.own ds)) => Q (.bor ds) env
  | some (some w) => Q w env
  | _ => False
theorem wr_any {K : PySem.W.Frag} {H0 H : Hp} {G : Gh} {h h' : Holder} {v : V} {w : W} (hw : ∀ ds, w ≠ .own ds) (r : WR K H0 G H h v w) : WR K H0 G H h' v w := by
  cases w with
  | own ds => exact absurd rfl (hw ds)
  | _ => exact r
theorem rv (i : Nat) {x : Str} (hN : X.N[i]? = some x := by rfl) (hv : Vis X.env.scope x := by first | exact Or.inl rfl | exact Or.inr (Or.inl rfl) | exact Or.inr (Or.inr rfl)) (hd : (x == ("__debug__" : Str)) = false := by decide)
    (hcd : (x == ("__classdict__" : Str)) = false := by decide) : RE X (.Name x pos) (pVar i) := .mk fun env Q q H0 F0 bs0 ts σ G H Q' x post => by
  unfold pVar at q
  split at q
  · rename_i ds hi
    obtain ⟨G', v, e1, r, y⟩ := x.frzSlot hi
    exact PE.wk (pe_var hN hv hd hcd) ⟨v, e1, post _ _ _ _ _ ⟨nb_val, q⟩ (y.pushV r)⟩
  · rename_i w hw hi
    obtain ⟨n, v, e1, r⟩ := x.slots i w hi
    exact PE.wk (pe_var hN hv hd hcd) ⟨v, e1, post _ _ _ _ _ ⟨n, q⟩ (x.push (wr_any (fun ds z => hw ds z) r))⟩
  · exact q.elim
theorem rp (i : Nat) {x : Str} (hN : X.N[i]? = some x := by rfl) (hv : Vis X.env.scope x := by first | exact Or.inl rfl | exact Or.inr (Or.inl rfl) | exact Or.inr (Or.inr rfl)) (hd : (x == ("__debug__" : Str)) = false := by decide)
    (hcd : (x == ("__classdict__" : Str)) = false := by decide) : RB X (.Name x pos) (pPeek i) := .mk fun env Q q H0 F0 bs0 ts σ G H Q' x post => by
  unfold pPeek at q
  split at q
  · rename_i ds hi
    obtain ⟨_, v, e1, a, vs, e, o, ha, _, _, r⟩ := x.slots i _ hi
    exact PE.wk (pe_var hN hv hd hcd) ⟨v, e1, post _ _ _ _ _ q (x.push ⟨a, vs, i, e, o, ha, r⟩)⟩
  · rename_i w hw hi
    obtain ⟨n, v, e1, r⟩ := x.slots i w hi
    exact PE.wk (pe_var hN hv hd hcd) ⟨v, e1, post _ _ _ _ _ q (x.push (wr_any (fun ds z => hw ds z) r))⟩
  · exact q.elim
def pC (d : PD) : Phi := fun env Q => Q (.val d) env
def pW (w : W) : Phi := fun env Q => Q w env
theorem re_c {d : PD} {v : V} (h : PE X e (tC v)) (r : ∀ F, Rp X.K F v d) : RE X e (pC d) := .mk fun env Q q H0 F0 bs0 ts σ G H Q' x post => PE.wk h (post _ _ _ _ _ ⟨nb_val, q⟩ (x.pushV (r _)))
theorem re_int {i : Int} {j : Nat} : RE X (.Constant (.int i) j pos) (pC (.int i)) := re_c pe_int fun _ => .int i
theorem re_str {i : Str} {j : Nat} : RE X (.Constant (.str i) j pos) (pC (.str i)) := re_c pe_str fun _ => .str i
theorem re_bl {i : Bool} {j : Nat} : RE X (.Constant (.bool i) j pos) (pC (.bool i)) := re_c pe_bl fun _ => .bl i
theorem re_non {j : Nat} : RE X (.Constant .none j pos) (pC .none) := re_c pe_non fun _ => .non
theorem re_ty {x : Str} {n : String} (hm : X.mg x = none) (hv : bootBuiltins x = some (.type n)) (hg : Gl X x := by rfl) (hn : x ≠ "__name__" := by decide) (hd : (x == ("__debug__" : Str)) = false := by decide) : RE X (.Name x pos) (pW (.ty n)) :=
  .mk fun env Q q H0 F0 bs0 ts σ G H Q' y post => PE.wk (pe_bltn (v := .ty n) hg hm hv rfl hn hd) (post _ _ _ _ _ ⟨nb_ty, q⟩ (y.push rfl))
/-- a constant of the module -/
structure Kst (K : PySem.W.Frag) (mg : Str → Option Value) (x : Str) (d : PD) : Prop where
  ex : ∃ (v : V) (u : Value), mg x = some u ∧ RelV v u ∧ ∀ F, Rp K F v d
theorem re_glob {x : Str} {d : PD} (h : Kst X.K X.mg x d) (hg : Gl X x := by rfl) (hd : (x == ("__debug__" : Str)) = false := by decide) : RE X (.Name x pos) (pC d) := by
  obtain ⟨v, u, hm, r, q⟩ := h.ex
  exact re_c (pe_glob hg hm r hd) q

/-! ### operators -/
def pBin (f : W → W → (W → Prop) → Prop) (φa φb : Phi) : Phi := fun env Q => φa env fun w1 e1 => φb e1 fun w2 e2 => f w1 w2 fun w => Q w e2
theorem re_bin {op : Operator} {r : R2} {f : W → W → (W → Prop) → Prop} (ho : OpR X (binaryOp op) r) (hd : OpD X.K r f) (ha : RB X a φa) (hb : RB X b φb) : RE X (.BinOp a op b pos) (pBin f φa φb) := .mk fun env Q q =>
  he_bin ho hd ((ha _ _ q).mono fun _ _ q => hb _ _ q)
theorem re_cmp {op : CmpOp} {r : R2} {f : W → W → (W → Prop) → Prop} (ho : OpR X (compareOp op) r) (hd : OpD X.K r f) (ha : RB X a φa) (hb : RB X b φb) (hm : behindInMarks op b = false := by rfl) : RE X (.Compare a [op] [b] pos) (pBin f φa φb) := .mk fun env Q q =>
  he_cmp ho hd hm ((ha _ _ q).mono fun _ _ q => hb _ _ q)
def pBool (φ : Phi) : PhiT := fun env Q => φ env (boolD Q)
theorem rt_cmp {op : CmpOp} {r : R2} {f : W → W → (W → Prop) → Prop} (ho : OpR X (compareOp op) r) (hd : OpD X.K r f) (ha : RB X a φa) (hb : RB X b φb) (hm : behindInMarks op b = false := by rfl) : RT X (.Compare a [op] [b] pos) (pBool (pBin f φa φb)) := .mk fun env Q q =>
  ht_cmp ho hd hm ((ha _ _ q).mono fun _ _ q => hb _ _ q)
/-- is None, is not None -/
def pIsN (neg : Bool) (φ : Phi) : Phi := fun env Q => φ env fun w e => Q (.val (.bool (neg != isNon w))) e
theorem re_isN {j : Nat} {p : Pos} (ha : RB X a φa) : RE X (.Compare a [.Is] [.Constant .none j p] pos) (pIsN false φa) := .mk fun env Q q H0 F0 bs0 ts σ G H Q' x post => by
  refine PE.wk (pe_cmp (pc_isN wkE_ok) rfl) ?_
  refine ha _ _ q _ _ _ _ _ _ _ _ x fun v w env1 G1 H1 q1 x1 => ?_
  show Q' (.bl (decide (v = .non))) H1
  rw [x1.nonTop]
  refine post _ _ _ _ _ ⟨nb_val, q1⟩ (x1.pop.pushV ?_)
  rw [show (false != isNon w) = isNon w by simp]
  exact .bl _
theorem re_notN {j : Nat} {p : Pos} (ha : RB X a φa) : RE X (.Compare a [.IsNot] [.Constant .none j p] pos) (pIsN true φa) := .mk fun env Q q H0 F0 bs0 ts σ G H Q' x post => by
  refine PE.wk (pe_cmp (pc_notN wkE_ok) rfl) ?_
  refine ha _ _ q _ _ _ _ _ _ _ _ x fun v w env1 G1 H1 q1 x1 => ?_
  show Q' (.bl (!decide (v = .non))) H1
  rw [x1.nonTop]
  refine post _ _ _ _ _ ⟨nb_val, q1⟩ (x1.pop.pushV ?_)
  rw [show (true != isNon w) = !isNon w by simp]
  exact .bl _
theorem rt_isN {j : Nat} {p : Pos} (ha : RB X a φa) : RT X (.Compare a [.Is] [.Constant .none j p] pos) (pBool (pIsN false φa)) := .mk fun env Q q H0 F0 bs0 ts σ G H Q' x post => by
  refine PT.wk (pt_cmp (pc_isN wkE_ok) rfl) ?_
  refine ha _ _ q _ _ _ _ _ _ _ _ x fun v w env1 G1 H1 q1 x1 => ?_
  refine ⟨_, rfl, ?_⟩
  rw [x1.nonTop]
  have q1 : boolD Q (.val (.bool (false != isNon w))) env1 := q1
  rw [show (false != isNon w) = isNon w by simp] at q1
  exact post _ _ _ _ q1 x1.pop
theorem rt_notN {j : Nat} {p : Pos} (ha : RB X a φa) : RT X (.Compare a [.IsNot] [.Constant .none j p] pos) (pBool (pIsN true φa)) := .mk fun env Q q H0 F0 bs0 ts σ G H Q' x post => by
  refine PT.wk (pt_cmp (pc_notN wkE_ok) rfl) ?_
  refine ha _ _ q _ _ _ _ _ _ _ _ x fun v w env1 G1 H1 q1 x1 => ?_
  refine ⟨_, rfl, ?_⟩
  rw [x1.nonTop]
  have q1 : boolD Q (.val (.bool (true != isNon w))) env1 := q1
  rw [show (true != isNon w) = !isNon w by simp] at q1
  exact post _ _ _ _ q1 x1.pop
/-- a < b <= c -/
def pChain (f f' : W → W → (W → Prop) → Prop) (φa φb φc : Phi) : Phi := fun env Q => φa env fun w1 e1 => φb e1 fun w2 e2 => f w1 w2 fun w => boolD (fun k e3 => if k = true then φc e3 fun w3 e4 => f' w2 w3 fun w => Q w e4 else Q (.val (.bool false)) e3) w e2
/-- f's answer leaves its right operand as it was -/
def OpK (K : PySem.W.Frag) (r : R2) (f : W → W → (W → Prop) → Prop) : Prop := ∀ {H0 F0 : Hp} {bs0 : List Addr} {env : Env} {ts : List (V × W)} {σ : St} {G : Gh} {H : Hp} {v1 v2 : V} {w1 w2 : W} {P : W → Prop} {Q' : VK},
  Ok K H0 F0 bs0 env ((v2, w2) :: (v1, w1) :: ts) σ G H → f w1 w2 P → (∀ k, P (.val (.bool k)) → Q' (.bl k) H) → r v1 v2 H Q'
theorem iiK {g : Int → Int → Bool} {K : PySem.W.Frag} : OpK K (rI (fun _ _ => True) fun i j => .bl (g i j)) (iiD (fun _ _ => True) fun i j => .bool (g i j)) := fun x q p => by
  obtain ⟨i, j, rfl, rfl, c, q⟩ := iiD_inv q
  exact ⟨i, j, x.int2, x.int1, c, p _ q⟩
theorem Ok.swap2 {K : PySem.W.Frag} {H0 F0 H : Hp} {bs0 : List Addr} {env : Env} {ts : List (V × W)} {σ : St} {G : Gh} {v u : V} {w y : W} (x : Ok K H0 F0 bs0 env ((v, w) :: (u, y) :: ts) σ G H) (hw : permW w) : Ok K H0 F0 bs0 env ((v, w) :: ts) σ G H := by
  refine ⟨x.len, x.sub, x.ext, x.f0, x.fnew, x.bpre, x.bok, x.ow, x.slots, wr_any (fun ds z => ?_) x.temps.1, x.temps.2.2⟩
  subst z; exact hw
theorem chain_go {op op' : CmpOp} {c : Expr} {r r' : R2} {f f' : W → W → (W → Prop) → Prop} {env : Env} {Q : W → Env → Prop} (hd : OpK X.K r f) (hd' : OpD X.K r' f') (hp : ∀ w1 w2 P, f w1 w2 P → permW w2) (ha : RB X a φa) (hb : RB X b φb) (hc : RB X c φc)
    (q : pChain f f' φa φb φc env Q) {H0 F0 : Hp} {bs0 : List Addr} {ts : List (V × W)} {σ : St} {G : Gh} {H : Hp} {Q' : VK} (x : Ok X.K H0 F0 bs0 env ts σ G H)
    (post : ∀ v w env' G' H', nb w → Q w env' → Ok X.K H0 F0 bs0 env' ((v, w) :: ts) σ G' H' → Q' v H') : tChain r r' (wkE X a) (wkE X b) (wkE X c) σ H Q' := by
  refine ha _ _ q _ _ _ _ _ _ _ _ x fun v1 w1 env1 G1 H1 q1 x1 => ?_
  refine hb _ _ q1 _ _ _ _ _ _ _ _ x1 fun v2 w2 env2 G2 H2 q2 x2 => ?_
  refine hd x2 q2 fun k q3 => ⟨k, rfl, ?_⟩
  have q3 : if k = true then φc env2 (fun w3 e4 => f' w2 w3 fun w => Q w e4) else Q (.val (.bool false)) env2 := q3
  cases k with
  | false => exact post _ _ _ _ _ nb_val q3 (x2.pop.pop.pushV (.bl _))
  | true =>
    have x3 := x2.swap2 (hp _ _ _ q2)
    refine hc _ _ q3 _ _ _ _ _ _ _ _ x3 fun v3 w3 env3 G3 H3 q4 x4 => ?_
    exact hd' x4 q4 fun v w G' H' hn hq hx => post v w env3 G' H' hn hq hx
theorem iiP {C : Int → Int → Prop} {g : Int → Int → PD} : ∀ w1 w2 P, iiD C g w1 w2 P → permW w2 := fun w1 w2 P q => by
  obtain ⟨i, j, rfl, rfl, _⟩ := iiD_inv q
  trivial
theorem re_chain {op op' : CmpOp} {c : Expr} {r r' : R2} {f f' : W → W → (W → Prop) → Prop} (ho : OpR X (compareOp op) r) (hd : OpK X.K r f) (hp : ∀ w1 w2 P, f w1 w2 P → permW w2) (ho' : OpR X (compareOp op') r') (hd' : OpD X.K r' f') (ha : RB X a φa) (hb : RB X b φb) (hc : RB X c φc)
    (hm : lastMarks [op, op'] [b, c] = false := by rfl) : RE X (.Compare a [op, op'] [b, c] pos) (pChain f f' φa φb φc) := .mk fun env Q q H0 F0 bs0 ts σ G H Q' x post =>
  PE.wk (pe_chain ho ho' wkE_ok wkE_ok wkE_ok hm) (chain_go (op := op) (op' := op') hd hd' hp ha hb hc q x fun v w e G H hn hq hx => post v w e G H ⟨hn, hq⟩ hx)
theorem rt_chain {op op' : CmpOp} {c : Expr} {r r' : R2} {f f' : W → W → (W → Prop) → Prop} (ho : OpR X (compareOp op) r) (hd : OpK X.K r f) (hp : ∀ w1 w2 P, f w1 w2 P → permW w2) (ho' : OpR X (compareOp op') r') (hd' : OpD X.K r' f') (ha : RB X a φa) (hb : RB X b φb) (hc : RB X c φc)
    (hm : lastMarks [op, op'] [b, c] = false := by rfl) : RT X (.Compare a [op, op'] [b, c] pos) (pBool (pChain f f' φa φb φc)) := .mk fun env Q q H0 F0 bs0 ts σ G H Q' x post =>
  PT.wk (pt_chain ho ho' wkE_ok wkE_ok wkE_ok hm) (chain_go (op := op) (op' := op') hd hd' hp ha hb hc q x fun v w e G H hn hq hx => by
    obtain ⟨k, rfl, q⟩ := boolD_inv hq
    exact ⟨k, hx.bool1, post k e G H q hx.pop⟩)
/-- -a -/
def pNeg (φ : Phi) : Phi := fun env Q => φ env fun w e => match w with
  | .val (.int i) => Q (.val (.int (-i))) e
  | _ => False
theorem re_neg (ha : RB X a φa) : RE X (.UnaryOp .USub a pos) (pNeg φa) := .mk fun env Q q H0 F0 bs0 ts σ G H Q' x post => by
  refine PE.wk (pe_un un_neg wkE_ok) ?_
  refine ha _ _ q _ _ _ _ _ _ _ _ x fun v w env1 G1 H1 q1 x1 => ?_
  split at q1
  · exact ⟨_, x1.int1, post _ _ _ _ _ ⟨nb_val, q1⟩ (x1.pop.pushV (.int _))⟩
  · exact q1.elim

/-! ### tests -/
def pTru (φ : Phi) : PhiT := fun env Q => φ env fun w e => truD w fun k => Q k e
theorem rt_tru (ha : RB X a φa) (he : ∀ whole, isTrue a X.env whole = (do let v ← whole; standAt a.pos; holding [v] (truthy v)) := by intro _; rfl) : RT X a (pTru φa) := .mk fun env Q q H0 F0 bs0 ts σ G H Q' x post => by
  refine PT.wk (pt_truth wkE_ok he) ?_
  refine ha _ _ q _ _ _ _ _ _ _ _ x fun v w env1 G1 H1 q1 x1 => ?_
  obtain ⟨k, h1, h2⟩ := truD_ok x1 q1
  exact ⟨k, h1, post k _ _ _ h2 x1.pop⟩
variable {ψa ψb : PhiT} {rest : List Expr}
def pNot (ψ : PhiT) : PhiT := fun env Q => ψ env fun k e => Q (!k) e
theorem rt_not (ha : RT X a ψa) : RT X (.UnaryOp .Not a pos) (pNot ψa) := .mk fun env Q q H0 F0 bs0 ts σ G H Q' x post =>
  PT.wk (pt_not wkT_ok) (ha _ _ q _ _ _ _ _ _ _ _ x fun k env1 G1 H1 q1 x1 => post _ _ _ _ q1 x1)
def RTw (X : Cx) (e : Expr) (ψ : PhiT) : Prop := ∃ t, PW X e t ∧ ∀ env Q, ψ env Q → ∀ H0 F0 bs0 ts σ G H Q', Ok X.K H0 F0 bs0 env ts σ G H → (∀ b env' G' H', Q b env' → Ok X.K H0 F0 bs0 env' ts σ G' H' → Q' b H') → t σ H Q'
theorem RTw.t (h : RTw X e ψa) : RT X e ψa := by
  obtain ⟨t, h1, h2⟩ := h
  exact .mk fun env Q q H0 F0 bs0 ts σ G H Q' x post => PT.wk h1.pt (h2 env Q q H0 F0 bs0 ts σ G H Q' x post)
def pAndT (ψa ψb : PhiT) : PhiT := fun env Q => ψa env fun k e => if k = true then ψb e Q else Q false e
def pOrT (ψa ψb : PhiT) : PhiT := fun env Q => ψa env fun k e => if k = true then Q true e else ψb e Q
theorem rw_and1 (ha : RT X a ψa) : RTw X (.BoolOp .And [a] pos) ψa := ⟨_, pw_and1 wkT_ok, fun env Q q H0 F0 bs0 ts σ G H Q' x post => ha env Q q H0 F0 bs0 ts σ G H Q' x post⟩
theorem rw_or1 (ha : RT X a ψa) : RTw X (.BoolOp .Or [a] pos) ψa := ⟨_, pw_or1 wkT_ok, fun env Q q H0 F0 bs0 ts σ G H Q' x post => ha env Q q H0 F0 bs0 ts σ G H Q' x post⟩
theorem rw_and (ha : RT X a ψa) (hb : RTw X (.BoolOp .And (b :: rest) pos) ψb) : RTw X (.BoolOp .And (a :: b :: rest) pos) (pAndT ψa ψb) := by
  obtain ⟨t, h1, h2⟩ := hb
  refine ⟨_, pw_and wkT_ok h1, fun env Q q H0 F0 bs0 ts σ G H Q' x post => ?_⟩
  refine ha _ _ q _ _ _ _ _ _ _ _ x fun k env1 G1 H1 q1 x1 => ?_
  cases k with
  | true => exact h2 _ _ q1 _ _ _ _ _ _ _ _ x1 post
  | false => exact post _ _ _ _ q1 x1
theorem rw_or (ha : RT X a ψa) (hb : RTw X (.BoolOp .Or (b :: rest) pos) ψb) : RTw X (.BoolOp .Or (a :: b :: rest) pos) (pOrT ψa ψb) := by
  obtain ⟨t, h1, h2⟩ := hb
  refine ⟨_, pw_or wkT_ok h1, fun env Q q H0 F0 bs0 ts σ G H Q' x post => ?_⟩
  refine ha _ _ q _ _ _ _ _ _ _ _ x fun k env1 G1 H1 q1 x1 => ?_
  cases k with
  | true => exact post _ _ _ _ q1 x1
  | false => exact h2 _ _ q1 _ _ _ _ _ _ _ _ x1 post
/-- and, or, not as values, all but the last bools -/
def pAndV (φa φb : Phi) : Phi := fun env Q => φa env fun w e => boolD (fun k e => if k = true then φb e Q else Q (.val (.bool false)) e) w e
def pOrV (φa φb : Phi) : Phi := fun env Q => φa env fun w e => boolD (fun k e => if k = true then Q (.val (.bool true)) e else φb e Q) w e
def pNotV (φa : Phi) : Phi := fun env Q => φa env fun w e => boolD (fun k e => Q (.val (.bool (!k))) e) w e
theorem re_one {op : BoolOp} (ha : RE X a φa) : RE X (.BoolOp op [a] pos) φa := .mk fun env Q q H0 F0 bs0 ts σ G H Q' x post =>
  PE.wk (pe_one wkE_ok) (ha _ _ q _ _ _ _ _ _ _ _ x post)
theorem re_andV (ha : RB X a φa) (hb : RE X (.BoolOp .And (b :: rest) pos) φb) : RE X (.BoolOp .And (a :: b :: rest) pos) (pAndV φa φb) := .mk fun env Q q H0 F0 bs0 ts σ G H Q' x post => by
  refine PE.wk (pe_and wkE_ok wkE_ok) ?_
  refine ha _ _ q _ _ _ _ _ _ _ _ x fun v w env1 G1 H1 q1 x1 => ?_
  obtain ⟨k, rfl, q1⟩ := boolD_inv q1
  refine ⟨k, x1.bool1, ?_⟩
  cases k with
  | true => exact hb _ _ q1 _ _ _ _ _ _ _ _ x1.pop post
  | false => exact post _ _ _ _ _ ⟨nb_val, q1⟩ (x1.pop.pushV (.bl _))
theorem re_orV (ha : RB X a φa) (hb : RE X (.BoolOp .Or (b :: rest) pos) φb) : RE X (.BoolOp .Or (a :: b :: rest) pos) (pOrV φa φb) := .mk fun env Q q H0 F0 bs0 ts σ G H Q' x post => by
  refine PE.wk (pe_or wkE_ok wkE_ok) ?_
  refine ha _ _ q _ _ _ _ _ _ _ _ x fun v w env1 G1 H1 q1 x1 => ?_
  obtain ⟨k, rfl, q1⟩ := boolD_inv q1
  refine ⟨k, x1.bool1, ?_⟩
  cases k with
  | true => exact post _ _ _ _ _ ⟨nb_val, q1⟩ (x1.pop.pushV (.bl _))
  | false => exact hb _ _ q1 _ _ _ _ _ _ _ _ x1.pop post
theorem re_notV (ha : RB X a φa) : RE X (.UnaryOp .Not a pos) (pNotV φa) := .mk fun env Q q H0 F0 bs0 ts σ G H Q' x post => by
  refine PE.wk (pe_not wkE_ok) ?_
  refine ha _ _ q _ _ _ _ _ _ _ _ x fun v w env1 G1 H1 q1 x1 => ?_
  obtain ⟨k, rfl, q1⟩ := boolD_inv q1
  exact ⟨k, x1.bool1, post _ _ _ _ _ ⟨nb_val, q1⟩ (x1.pop.pushV (.bl _))⟩
def pIf (ψ : PhiT) (φa φb : Phi) : Phi := fun env Q => ψ env fun k e => if k = true then φa e Q else φb e Q
theorem re_if {c : Expr} (hc : RT X c ψa) (ha : RE X a φa) (hb : RE X b φb) : RE X (.IfExp c a b pos) (pIf ψa φa φb) := .mk fun env Q q H0 F0 bs0 ts σ G H Q' x post => by
  refine PE.wk (pe_ifExp wkT_ok wkE_ok wkE_ok) ?_
  refine hc _ _ q _ _ _ _ _ _ _ _ x fun k env1 G1 H1 q1 x1 => ?_
  cases k with
  | true => exact ha _ _ q1 _ _ _ _ _ _ _ _ x1 post
  | false => exact hb _ _ q1 _ _ _ _ _ _ _ _ x1 post

/-! ### arguments, displays -/
variable {φs : PhiA}
def pNil : PhiA := fun env Q => Q [] env
def pCons (φ : Phi) (φs : PhiA) : PhiA := fun env Q => φ env fun w e1 => φs e1 fun ws e2 => Q (w.fz :: ws) e2
theorem ra_nil : RA X [] pNil := .mk fun env Q q => ha_nil q
theorem ra_cons (ha : RB X a φa) (hs : RA X es φs) (he : starEach (a :: es) X.env = (false, eval a X.env) :: starEach es X.env := by exact star_of rfl) : RA X (a :: es) (pCons φa φs) := .mk fun env Q q =>
  ha_cons he ((ha _ _ q).mono fun _ _ q => hs _ _ q)
def pds : List W → Option (List PD)
  | [] => some []
  | .val d :: ws => match pds ws with
    | some ds => some (d :: ds)
    | none => none
  | _ => none
theorem pds_rp {K : PySem.W.Frag} {F : Hp} {bs : List Addr} : ∀ {vs : List V} {ws : List W} {ds : List PD}, pds ws = some ds → PRs K F bs vs ws → RpA K F vs ds
  | [], [], _, h, _ => by cases h; exact .nil
  | v :: vs, .val d :: ws, ds, h, r => by
    unfold pds at h
    cases e : pds ws with
    | none => rw [e] at h; cases h
    | some es => rw [e] at h; cases h; exact .cons r.1 (pds_rp e r.2)
  | v :: vs, .own d :: ws, ds, h, r => by cases h
  | v :: vs, .bor d :: ws, ds, h, r => by cases h
  | v :: vs, .bag d :: ws, ds, h, r => by cases h
  | v :: vs, .scr d :: ws, ds, h, r => by cases h
  | v :: vs, .ty d :: ws, ds, h, r => by cases h
  | [], _ :: _, _, _, r => r.elim
  | _ :: _, [], _, _, r => r.elim
theorem pds_perm : ∀ {ws : List W} {ds : List PD}, pds ws = some ds → ∀ w ∈ ws, permW w
  | [], _, _, w, hw => by cases hw
  | .val d :: ws, ds, h, w, hw => by
    unfold pds at h
    cases e : pds ws with
    | none => rw [e] at h; cases h
    | some es =>
      rcases List.mem_cons.mp hw with rfl | hw
      · trivial
      · exact pds_perm e w hw
  | .own d :: ws, ds, h, _, _ => by cases h
  | .bor d :: ws, ds, h, _, _ => by cases h
  | .bag d :: ws, ds, h, _, _ => by cases h
  | .scr d :: ws, ds, h, _, _ => by cases h
  | .ty d :: ws, ds, h, _, _ => by cases h
def pTup (φs : PhiA) : Phi := fun env Q => φs env fun ws e => match pds ws with
  | some ds => ds.length ≤ sizeLine ∧ Q (.val (.tuple ds)) e
  | none => False
def pLst (φs : PhiA) : Phi := fun env Q => φs env fun ws e => match pds ws with
  | some ds => ds.length ≤ sizeLine ∧ Q (.own ds) e
  | none => False
theorem re_tup {k : Nat} (hs : RA X es φs) : RE X (.Tuple es k pos) (pTup φs) := .mk fun env Q q H0 F0 bs0 ts σ G H Q' x post => by
  refine PE.wk (pe_tup wkA_ok) ?_
  refine hs _ _ q _ _ _ _ _ _ _ _ x fun vs ws env1 G1 H1 hl q1 x1 => ?_
  split at q1
  · rename_i ds hd
    have r := pds_rp hd (temps_zipR hl (pds_perm hd) x1.temps).1
    exact ⟨by rw [r.len]; exact q1.1, fun p hp => post _ _ _ _ _ ⟨nb_val, q1.2⟩ ((x1.dropA hl).newT hp r)⟩
  · exact q1.elim
theorem re_lst (hs : RA X es φs) : RE X (.List es pos) (pLst φs) := .mk fun env Q q H0 F0 bs0 ts σ G H Q' x post => by
  refine PE.wk (pe_lst wkA_ok) ?_
  refine hs _ _ q _ _ _ _ _ _ _ _ x fun vs ws env1 G1 H1 hl q1 x1 => ?_
  split at q1
  · rename_i ds hd
    have r := pds_rp hd (temps_zipR hl (pds_perm hd) x1.temps).1
    exact ⟨by rw [r.len]; exact q1.1, fun p hp => post _ _ _ _ _ ⟨nb_own, q1.2⟩ ((x1.dropA hl).newL hp r)⟩
  · exact q1.elim

/-! ### subscripts, slices -/
theorem re_ix (ha : RB X a φa) (hb : RB X b φb) (hs : PlainIx b := by intro _ _; rfl) : RE X (.Subscript a b pos) (pBin ixD φa φb) := .mk fun env Q q H0 F0 bs0 ts σ G H Q' x post => by
  refine PE.wk (pe_ix ix_seq wkE_ok wkE_ok hs) ?_
  refine ha _ _ q _ _ _ _ _ _ _ _ x fun v1 w1 env1 G1 H1 q1 x1 => ?_
  exact hb _ _ q1 _ _ _ _ _ _ _ _ x1 fun v2 w2 env2 G2 H2 q2 x2 => ixD_ok x2 q2 fun v w G' H' hn hq hx => post v w env2 G' H' ⟨hn, hq⟩ hx
abbrev PhiO := Env → (Option Int → Env → Prop) → Prop
def RO (X : Cx) (o : Option Expr) (φ : PhiO) : Prop := ∃ t, PO X o t ∧ ∀ env Q, φ env Q → ∀ H0 F0 bs0 ts σ G H Q', Ok X.K H0 F0 bs0 env ts σ G H → (∀ i env' G' H', Q i env' → Ok X.K H0 F0 bs0 env' ts σ G' H' → Q' i H') → t σ H Q'
def pNoPart : PhiO := fun env Q => Q none env
def pPart (φ : Phi) : PhiO := fun env Q => φ env fun w e => match w with
  | .val (.int i) => Q (some i) e
  | _ => False
theorem ro_none : RO X none pNoPart := ⟨_, po_none, fun env Q q H0 F0 bs0 ts σ G H Q' x post => post _ _ _ _ q x⟩
theorem ro_some (ha : RB X a φa) : RO X (some a) (pPart φa) := ⟨_, po_some wkE_ok, fun env Q q H0 F0 bs0 ts σ G H Q' x post => by
  refine ha _ _ q _ _ _ _ _ _ _ _ x fun v w env1 G1 H1 q1 x1 => ?_
  split at q1
  · exact ⟨_, x1.int1, post _ _ _ _ q1 x1.pop⟩
  · exact q1.elim⟩
def cutL {α : Type} (xs : List α) (lo hi : Option Int) : List α := (xs.drop (HT.sIx xs.length 0 lo)).take (HT.sIx xs.length xs.length hi - HT.sIx xs.length 0 lo)
def slD (w : W) (lo hi : Option Int) (P : W → Prop) : Prop := match w with
  | .val (.tuple ds) => P (.val (.tuple (cutL ds lo hi)))
  | w => match w.seq with
    | some ds => P (.own (cutL ds lo hi))
    | none => False
def pSl (φ : Phi) (φl φh : PhiO) : Phi := fun env Q => φ env fun w e1 => φl e1 fun l e2 => φh e2 fun h e3 => slD w l h fun w => Q w e3
theorem cutV_rp {K : PySem.W.Frag} {F : Hp} {vs : List V} {ds : List PD} (r : RpA K F vs ds) (lo hi : Option Int) : RpA K F (cutV vs lo hi) (cutL ds lo hi) := by
  unfold cutV cutL
  rw [r.len]
  exact (r.drop _).take _
theorem sIx_whole {α : Type} {xs : List α} {lo hi : Option Int} (h : HT.sIx xs.length 0 lo = 0 ∧ HT.sIx xs.length xs.length hi = xs.length) : cutL xs lo hi = xs := by
  unfold cutL
  rw [h.1, h.2]
  simp
theorem re_sl {lo hi : Option Expr} {φl φh : PhiO} {p2 : Pos} (ha : RB X a φa) (hl : RO X lo φl) (hh : RO X hi φh) : RE X (.Subscript a (.Slice lo hi none p2) pos) (pSl φa φl φh) := .mk fun env Q q H0 F0 bs0 ts σ G H Q' x post => by
  obtain ⟨tl, l1, l2⟩ := hl
  obtain ⟨th, h1, h2⟩ := hh
  refine PE.wk (pe_slice (SlR.or sl_tupA sl_list) wkE_ok l1 h1) ?_
  refine ha _ _ q _ _ _ _ _ _ _ _ x fun v1 w1 env1 G1 H1 q1 x1 => ?_
  refine l2 _ _ q1 _ _ _ _ _ _ _ _ x1 fun l env2 G2 H2 q2 x2 => ?_
  refine h2 _ _ q2 _ _ _ _ _ _ _ _ x2 fun h env3 G3 H3 q3 x3 => ?_
  unfold slD at q3
  split at q3
  · have r0 : Rp X.K G3.F v1 _ := x3.temps.1
    obtain ⟨a, vs, e, hs, r⟩ := x3.tupTop
    refine .inl ⟨a, vs, e, hs, fun hw => ?_, fun hw p hp => post _ _ _ _ _ ⟨nb_val, q3⟩ (x3.pop.newT hp (cutV_rp r l h))⟩
    rw [r.len] at hw
    rw [sIx_whole hw] at q3
    rw [← e]
    exact post _ _ _ _ _ ⟨nb_val, q3⟩ (x3.pop.pushV r0)
  · split at q3
    · rename_i ds hd
      obtain ⟨a, vs, e, hs, r⟩ := x3.seqTop hd
      exact .inr ⟨a, vs, e, SqL.of hs, fun p hp => post _ _ _ _ _ ⟨nb_own, q3⟩ (x3.pop.newL hp (cutV_rp r l h))⟩
    · exact q3.elim

/-! ### calls -/
def pCB (f : List W → (W → Prop) → Prop) (φs : PhiA) : Phi := fun env Q => φs env fun ws e => f ws fun w => Q w e
theorem re_callB {x : Str} {id : String} {r : List V → Hp → VK → Prop} {f : List W → (W → Prop) → Prop} {p : Pos} (hc : CallR X (.builtin id) r) (hd : CallD X.K r f) (hm : X.mg x = none) (hv : bootBuiltins x = some (.builtin id)) (hs : RA X (e :: es) φs) (hg : Gl X x := by rfl) (hn : x ≠ "__name__" := by decide) (hdb : (x == ("__debug__" : Str)) = false := by decide)
    (he : starEach (e :: es) X.env = (false, eval e X.env) :: starEach es X.env := by exact star_of rfl) (hpl : (backTo pos (starEach es X.env)).any (·.1) = false := by exact plain_of rfl) :
    RE X (.Call (.Name x p) (e :: es) [] pos) (pCB f φs) := .mk fun env Q q H0 F0 bs0 ts σ G H Q' y post => by
  refine PE.wk (pe_callB hc hg hm hv wkA_ok hn hdb he hpl) ?_
  refine hs _ _ q _ _ _ _ _ _ _ _ y fun vs ws env1 G1 H1 hl q1 x1 => ?_
  exact hd hl x1 q1 fun v w G' H' hn hq hx => post v w env1 G' H' ⟨hn, hq⟩ hx
theorem re_callTy {x : Str} {T : String} {r : List V → Hp → VK → Prop} {f : List W → (W → Prop) → Prop} {p : Pos} (hc : CallR X (.type T) r) (hd : CallD X.K r f) (hm : X.mg x = none) (hv : bootBuiltins x = some (.type T)) (hs : RA X (e :: es) φs) (hg : Gl X x := by rfl) (hn : x ≠ "__name__" := by decide) (hdb : (x == ("__debug__" : Str)) = false := by decide)
    (he : starEach (e :: es) X.env = (false, eval e X.env) :: starEach es X.env := by exact star_of rfl) (hpl : (backTo pos (starEach es X.env)).any (·.1) = false := by exact plain_of rfl) :
    RE X (.Call (.Name x p) (e :: es) [] pos) (pCB f φs) := .mk fun env Q q H0 F0 bs0 ts σ G H Q' y post => by
  refine PE.wk (pe_callTy hc hg hm hv wkA_ok hn hdb he hpl) ?_
  refine hs _ _ q _ _ _ _ _ _ _ _ y fun vs ws env1 G1 H1 hl q1 x1 => ?_
  exact hd hl x1 q1 fun v w G' H' hn hq hx => post v w env1 G' H' ⟨hn, hq⟩ hx
/-- a promise asked for -/
def Spc (sp : Spec) (ws : List W) (P : W → Prop) (_ : Tk P := ⟨⟩) : Prop := sp ws P
def pCall (sp : Spec) (φs : PhiA) : Phi := fun env Q => φs env fun ws e => (∀ w ∈ ws, permW w) ∧ Spc sp ws fun w => Q w e
theorem re_call {x : Str} {k ar : Nat} {sp : Spec} {p : Pos} (F : Fact X.prog X.w X.K X.mg X.base k x ar sp) (hr : Room k X.A) (hs : RA X (e :: es) φs) (hg : Gl X x := by rfl) (hdb : (x == ("__debug__" : Str)) = false := by decide)
    (he : starEach (e :: es) X.env = (false, eval e X.env) :: starEach es X.env := by exact star_of rfl) (hpl : (backTo pos (starEach es X.env)).any (·.1) = false := by exact plain_of rfl) :
    RE X (.Call (.Name x p) (e :: es) [] pos) (pCall sp φs) := .mk fun env Q q => he_call F hr hg hdb he hpl (hs _ _ q)
theorem re_call0 {x : Str} {k ar : Nat} {sp : Spec} {p : Pos} (F : Fact X.prog X.w X.K X.mg X.base k x ar sp) (hr : Room k X.A) (hg : Gl X x := by rfl) (hdb : (x == ("__debug__" : Str)) = false := by decide) :
    RE X (.Call (.Name x p) [] [] pos) (pCall sp pNil) := .mk fun env Q q H0 F0 bs0 ts σ G H Q' y post => by
  obtain ⟨f, fd, ps, _, _, ha, hm, hk, hb, F⟩ := F.ex
  refine PE.wk (pe_call0 F hr hg hm hk hb .nil pass0 hdb) ?_
  refine ⟨G.F, G.bs, [], y.sub, fun a ha => ⟨(y.bok a ha).1, (y.bok a ha).2.1⟩, trivial, _, q.2, fun w hw v G3 H3 hn y3 => ?_⟩
  obtain ⟨G4, y4⟩ := y.behind hn y3
  exact post v w env G4 H3 ⟨hn, hw⟩ y4
end
end Pw
/-! Pw5: targets, statements, loops, comprehensions. -/
namespace Pw
open PySem PySem.Spec PyProof.Rows L2

/-! ### targets -/
inductive Tg where
  | var (j : Nat)
  | tup (js : List Nat)
def gNames : List Nat → TGs
  | [] => gNil
  | j :: js => gCons (gName j) (gNames js)
def Tg.g (K : PySem.W.Frag) : Tg → TG
  | .var j => gName j
  | .tup js => gTup K js.length (gNames js)
def setMany (env : Env) : List Nat → List PD → Env
  | j :: js, d :: ds => setMany (env.set j (some (.val d))) js ds
  | _, _ => env
def Tg.d : Tg → W → Env → (Env → Prop) → Prop
  | .var j, w, env, Q => Q (env.set j (some w))
  | .tup js, w, env, Q => match w with
    | .val (.tuple ds) => ds.length = js.length ∧ Q (setMany env js ds)
    | _ => False
def Tg.slots : Tg → List Nat
  | .var j => [j]
  | .tup js => js
def setManyV (σ : St) : List Nat → List V → St
  | j :: js, v :: vs => setManyV (σ.set j (some v)) js vs
  | _, _ => σ
theorem setMany_out : ∀ {js : List Nat} {ds : List PD} {env : Env} {i : Nat}, i ∉ js → (setMany env js ds)[i]? = env[i]?
  | [], ds, env, i, _ => by cases ds <;> rfl
  | j :: js, [], env, i, _ => rfl
  | j :: js, d :: ds, env, i, h => by
    show (setMany (env.set j (some (.val d))) js ds)[i]? = _
    rw [setMany_out (fun z => h (List.mem_cons_of_mem _ z)), List.getElem?_set_ne (fun z => h (by rw [z]; exact List.mem_cons_self))]
section
variable {K : PySem.W.Frag} {H0 F0 H : Hp} {bs0 : List Addr} {env : Env} {ts : List (V × W)} {σ : St} {G : Gh} {v : V} {w : W}
theorem many_ok : ∀ {js : List Nat} {vs : List V} {ds : List PD} {env : Env} {σ : St} {G : Gh}, ds.length = js.length → RpA K G.F vs ds → Ok K H0 F0 bs0 env ts σ G H → ∀ {Q : St → Hp → Prop},
    (∀ G', Ok K H0 F0 bs0 (setMany env js ds) ts (setManyV σ js vs) G' H → Q (setManyV σ js vs) H) → gNames js vs σ H Q
  | [], _, [], env, σ, G, _, .nil, x, Q, post => ⟨rfl, post G x⟩
  | j :: js, _, d :: ds, env, σ, G, hl, .cons h r, x, Q, post => by
    obtain ⟨G', y, eF⟩ := (x.pushV h).store (i := j) (fun _ z => by cases z)
    exact ⟨_, _, rfl, many_ok (by simpa using hl) (by rw [eF]; exact r) y post⟩
theorem Tg.ok (t : Tg) {Q : Env → Prop} {Q' : St → Hp → Prop} (x : Ok K H0 F0 bs0 env ((v, w) :: ts) σ G H) (hn : nb w) (q : t.d w env Q)
    (post : ∀ env' σ' G', Q env' → (∃ us, us.length = t.slots.length ∧ σ' = setManyV σ t.slots us) ∧ (∀ i, i ∉ t.slots → env'[i]? = env[i]?) → Ok K H0 F0 bs0 env' ts σ' G' H → Q' σ' H) : t.g K v σ H Q' := by
  cases t with
  | var j =>
    obtain ⟨G', y, eF⟩ := x.store (i := j) hn
    exact post _ _ _ q ⟨⟨[v], rfl, rfl⟩, fun i hi => List.getElem?_set_ne (fun z => hi (by rw [z]; exact List.mem_cons_self))⟩ y
  | tup js =>
    unfold Tg.d at q
    simp only at q
    split at q
    · rename_i ds
      obtain ⟨a, vs, e, hs, r⟩ := x.tupTop
      refine ⟨a, vs, e, hs, by rw [r.len]; exact q.1, many_ok q.1 r x.pop fun G' y => post _ _ _ q.2 ⟨⟨vs, by rw [r.len]; exact q.1, rfl⟩, fun i hi => setMany_out hi⟩ y⟩
    · exact q.elim
end
section
variable {X : Cx} {e a b : Expr} {es : List Expr} {φ φa φb : Phi} {φs : PhiA} {ψ : PhiT} {χ χ' : PhiS} {pos : Pos}
/-- the form of a target -/
def RG (X : Cx) (tg : Expr) (t : Tg) : Prop := PG X tg (t.g X.K)
theorem rg_var (j : Nat) {x : Str} (hN : X.N.Nodup) (hi : X.N[j]? = some x := by rfl) (hx : Loc X.env.scope x := by first | exact Or.inl rfl | exact Or.inr rfl) (hf : X.fn x = true ∨ X.env.scope.names.lookup x = some .local := by first | exact .inl rfl | exact .inr rfl) : RG X (.Name x pos) (.var j) := pg_name hN hi hx hf
def RNs (X : Cx) (es : List Expr) (js : List Nat) : Prop := PGs X es (gNames js)
theorem rn_nil : RNs X [] [] := pgs_nil
theorem rn_cons (j : Nat) {x : Str} {js : List Nat} (hN : X.N.Nodup) (h : RNs X es js) (hi : X.N[j]? = some x := by rfl) (hx : Loc X.env.scope x := by first | exact Or.inl rfl | exact Or.inr rfl) (hf : X.fn x = true ∨ X.env.scope.names.lookup x = some .local := by first | exact .inl rfl | exact .inr rfl)
    (hs : (assignEach (.Name x pos :: es) X.env).map (·.2) = assign (.Name x pos) X.env :: (assignEach es X.env).map (·.2) := by rfl) : RNs X (.Name x pos :: es) (j :: js) := pgs_cons (pg_name hN hi hx hf) h hs
theorem rg_tup {k : Nat} {js : List Nat} (hc : X.calm = true) (h : RNs X es js) (hn : (assignEach es X.env).length = js.length := by rfl) (hst : (assignEach es X.env).findIdx? (·.1) = none := by rfl) : RG X (.Tuple es k pos) (.tup js) := pg_tup hc h hn hst

/-! ### statements -/
structure RS (X : Cx) (s : Stmt) (χ : PhiS) : Prop where
  go : ∀ env D, χ env D → HS X s env D
instance {X : Cx} {e : Stmt} {φ : PhiS} : CoeFun (RS X e φ) (fun _ => ∀ env D, φ env D → HS X e env D) := ⟨fun h => h.go⟩
structure RSs (X : Cx) (s : List Stmt) (χ : PhiS) : Prop where
  go : ∀ env D, χ env D → HSs X s env D
instance {X : Cx} {e : List Stmt} {φ : PhiS} : CoeFun (RSs X e φ) (fun _ => ∀ env D, φ env D → HSs X e env D) := ⟨fun h => h.go⟩
def sNext : PhiS := fun env D => D.nx env
def sSq (χ χ' : PhiS) (env : Env) (D : DE) (_ : Tk (χ, χ', D) := ⟨⟩) : Prop := χ env { D with nx := fun e => χ' e D }
def sSeq (χ χ' : PhiS) : PhiS := fun env D => sSq χ χ' env D
theorem seq_in {χ χ' : PhiS} {env : Env} {D : DE} {k : Tk (χ, χ', D)} (h : χ env { D with nx := fun e => χ' e D }) : sSq χ χ' env D k := h
theorem rss_nil : RSs X [] sNext := .mk fun env D q H0 F0 bs0 σ G H D' x k => PSs.wk pss_nil (k.nx _ _ _ _ q x)
theorem rss_cons {s : Stmt} {r : List Stmt} (h : RS X s χ) (h' : RSs X r χ') : RSs X (s :: r) (sSeq χ χ') := .mk fun env D q H0 F0 bs0 σ G H D' x k => by
  refine PSs.wk (pss_cons wkS_ok wkSs_ok) ?_
  exact h _ _ q _ _ _ _ _ _ _ x ⟨fun e σ G H n y => h' _ _ n _ _ _ _ _ _ _ y k, k.rt, k.bk, k.ct⟩
theorem rss_one {s : Stmt} (h : RS X s χ) : RSs X [s] χ := .mk fun env D q H0 F0 bs0 σ G H D' x k => by
  refine PSs.wk (pss_one wkS_ok) ?_
  exact h _ _ q _ _ _ _ _ _ _ x k
theorem rs_pass : RS X (.Pass pos) sNext := .mk fun env D q H0 F0 bs0 σ G H D' x k => PS.wk ps_pass (k.nx _ _ _ _ q x)
def sBreak : PhiS := fun env D => D.bk env
def sCont : PhiS := fun env D => D.ct env
theorem rs_break : RS X (.Break pos) sBreak := .mk fun env D q H0 F0 bs0 σ G H D' x k => PS.wk ps_break (k.bk _ _ _ _ q x)
theorem rs_cont : RS X (.Continue pos) sCont := .mk fun env D q H0 F0 bs0 σ G H D' x k => PS.wk ps_continue (k.ct _ _ _ _ q x)
def sNever : PhiS := fun _ _ => False
theorem rs_never {s : Stmt} : RS X s sNever := .mk fun env D q => q.elim
def sAsg (φ : Phi) (t : Tg) : PhiS := fun env D => φ env fun w e => t.d w e D.nx
theorem rs_set (j : Nat) {x : Str} {p' : Pos} (hN : X.N.Nodup) (ha : RE X a φa) (hi : X.N[j]? = some x := by rfl) (hx : Loc X.env.scope x := by first | exact Or.inl rfl | exact Or.inr rfl) (hs : swapsWith a (some (.Name x p')) pos.line X.env = pure false := by rfl) (hf : X.fn x = true ∨ X.env.scope.names.lookup x = some .local := by first | exact .inl rfl | exact .inr rfl) :
    RS X (.Assign [.Name x p'] a pos) (sAsg φa (.var j)) := .mk fun env D q H0 F0 bs0 σ G H D' x k => by
  refine PS.wk (ps_set hN hi hx wkE_ok hs hf) ?_
  refine ha _ _ q _ _ _ _ _ _ _ _ x fun v w env1 G1 H1 q1 x1 => ?_
  exact Tg.ok (.var j) x1 q1.1 q1.2 fun env' σ' G' n _ y => k.nx _ _ _ _ n y
theorem rs_asg {tg : Expr} {t : Tg} (ht : RG X tg t) (ha : RE X a φa) (hs : swapsWithSole [tg] a pos.line X.env = pure false := by rfl) (hw : swappedStores [tg] a X.env = pure none := by rfl)
    (h1 : (assignEach [tg] X.env).map (·.2) = [assign tg X.env] := by rfl) : RS X (.Assign [tg] a pos) (sAsg φa t) := .mk fun env D q H0 F0 bs0 σ G H D' x k => by
  refine PS.wk (ps_asg wkE_ok ht hs hw h1) ?_
  refine ha _ _ q _ _ _ _ _ _ _ _ x fun v w env1 G1 H1 q1 x1 => ?_
  exact Tg.ok t x1 q1.1 q1.2 fun env' σ' G' n _ y => k.nx _ _ _ _ n y
/-- a, b = x, y -/
def sPar2 (i j : Nat) (φa φb : Phi) : PhiS := fun env D => φa env fun w1 e1 => φb e1 fun w2 e2 => D.nx ((e2.set i (some w1)).set j (some w2))
theorem rs_par2 (i j : Nat) {x y : Str} {px py pt : Pos} {kt k2 pt2} (hc : X.calm = true) (hN : X.N.Nodup) (ha : RE X a φa) (hb : RE X b φb) (hi : X.N[i]? = some x := by rfl) (hj : X.N[j]? = some y := by rfl) (hij : i ≠ j := by decide)
    (hx : X.env.scope.names.lookup x = some .local := by rfl) (hy : X.env.scope.names.lookup y = some .local := by rfl)
    (hw : swappedStores [.Tuple [.Name x px, .Name y py] kt pt] (.Tuple [a, b] k2 pt2) X.env = pure (some [x, y]) := by rfl)
    (hs : swapsWithSole [.Tuple [.Name x px, .Name y py] kt pt] (.Tuple [a, b] k2 pt2) pos.line X.env = pure false := by rfl)
    (h1 : starEach (a :: [b]) X.env = (false, eval a X.env) :: starEach [b] X.env := by exact star_of rfl) (h2 : starEach [b] X.env = (false, eval b X.env) :: starEach [] X.env := by exact star_of rfl) :
    RS X (.Assign [.Tuple [.Name x px, .Name y py] kt pt] (.Tuple [a, b] k2 pt2) pos) (sPar2 i j φa φb) := .mk fun env D q H0 F0 bs0 σ G H D' z k => by
  refine PS.wk (ps_par hc hN hi hj hij hx hy (pa_cons wkE_ok (pa_cons wkE_ok pa_nil h2) h1) hw hs) ?_
  refine ha _ _ q _ _ _ _ _ _ _ _ z fun v1 w1 env1 G1 H1 q1 x1 => ?_
  refine hb _ _ q1.2 _ _ _ _ _ _ _ _ x1 fun v2 w2 env2 G2 H2 q2 x2 => ?_
  obtain ⟨G3, x3, _⟩ := x2.store (i := j) q2.1
  obtain ⟨G4, x4, _⟩ := x3.store (i := i) q1.1
  refine ⟨v1, v2, rfl, k.nx _ _ G4 _ q2.2 ?_⟩
  have e1 : (env2.set i (some w1)).set j (some w2) = (env2.set j (some w2)).set i (some w1) := List.set_comm _ _ hij
  have e2 : (σ.set i (some v1)).set j (some v2) = (σ.set j (some v2)).set i (some v1) := List.set_comm _ _ hij
  rw [e1, e2]
  exact x4
def sPar3 (i j l : Nat) (φa φb φc : Phi) : PhiS := fun env D => φa env fun w1 e1 => φb e1 fun w2 e2 => φc e2 fun w3 e3 => D.nx (((e3.set i (some w1)).set j (some w2)).set l (some w3))
theorem rs_par3 (i j l : Nat) {x y z : Str} {c : Expr} {φc : Phi} {px py pz pt : Pos} {kt k2 pt2} (hc : X.calm = true) (hN : X.N.Nodup) (ha : RE X a φa) (hb : RE X b φb) (hcc : RE X c φc) (hi : X.N[i]? = some x := by rfl) (hj : X.N[j]? = some y := by rfl) (hl : X.N[l]? = some z := by rfl) (hij : i ≠ j := by decide) (hil : i ≠ l := by decide) (hjl : j ≠ l := by decide)
    (hx : X.env.scope.names.lookup x = some .local := by rfl) (hy : X.env.scope.names.lookup y = some .local := by rfl) (hz : X.env.scope.names.lookup z = some .local := by rfl)
    (hw : swappedStores [.Tuple [.Name x px, .Name y py, .Name z pz] kt pt] (.Tuple [a, b, c] k2 pt2) X.env = pure (some [x, y, z]) := by rfl)
    (hs : swapsWithSole [.Tuple [.Name x px, .Name y py, .Name z pz] kt pt] (.Tuple [a, b, c] k2 pt2) pos.line X.env = pure false := by rfl)
    (h1 : starEach (a :: [b, c]) X.env = (false, eval a X.env) :: starEach [b, c] X.env := by exact star_of rfl) (h2 : starEach (b :: [c]) X.env = (false, eval b X.env) :: starEach [c] X.env := by exact star_of rfl) (h3 : starEach [c] X.env = (false, eval c X.env) :: starEach [] X.env := by exact star_of rfl) :
    RS X (.Assign [.Tuple [.Name x px, .Name y py, .Name z pz] kt pt] (.Tuple [a, b, c] k2 pt2) pos) (sPar3 i j l φa φb φc) := .mk fun env D q H0 F0 bs0 σ G H D' z k => by
  refine PS.wk (ps_par3 hc hN hi hj hl hij hil hjl hx hy hz (pa_cons wkE_ok (pa_cons wkE_ok (pa_cons wkE_ok pa_nil h3) h2) h1) hw hs) ?_
  refine ha _ _ q _ _ _ _ _ _ _ _ z fun v1 w1 env1 G1 H1 q1 x1 => ?_
  refine hb _ _ q1.2 _ _ _ _ _ _ _ _ x1 fun v2 w2 env2 G2 H2 q2 x2 => ?_
  refine hcc _ _ q2.2 _ _ _ _ _ _ _ _ x2 fun v3 w3 env3 G3 H3 q3 x3 => ?_
  obtain ⟨G4, x4, _⟩ := x3.store (i := l) q3.1
  obtain ⟨G5, x5, _⟩ := x4.store (i := j) q2.1
  obtain ⟨G6, x6, _⟩ := x5.store (i := i) q1.1
  refine ⟨v1, v2, v3, rfl, k.nx _ _ G6 _ q3.2 ?_⟩
  have e : ∀ {α : Type} (l0 : List α) (a b c : α), ((l0.set i a).set j b).set l c = ((l0.set l c).set j b).set i a := fun l0 a b c => by
    rw [show (l0.set i a).set j b = (l0.set j b).set i a from List.set_comm _ _ hij, show ((l0.set j b).set i a).set l c = ((l0.set j b).set l c).set i a from List.set_comm _ _ hil, show (l0.set j b).set l c = (l0.set l c).set j b from List.set_comm _ _ hjl]
  rw [e env3, e σ]
  exact x6
/-- x += e, x -= e of ints -/
def sAug (i : Nat) (f : Int → Int → Int) (φ : Phi) : PhiS := fun env D => ∃ m : Int, env[i]? = some (some (.val (.int m))) ∧ φ env fun w e => match w with
  | .val (.int n) => D.nx (e.set i (some (.val (.int (f m n)))))
  | _ => False
theorem rs_aug (i : Nat) {x : Str} {op : Operator} {f : Int → Int → Int} {p' : Pos} (hN : X.N.Nodup) (ho : PIp X op (ipI f)) (ha : RB X a φa) (hi : X.N[i]? = some x := by rfl) (hx : Loc X.env.scope x := by first | exact Or.inl rfl | exact Or.inr rfl) (hf : X.fn x = true ∨ X.env.scope.names.lookup x = some .local := by first | exact .inl rfl | exact .inr rfl) :
    RS X (.AugAssign (.Name x p') op a pos) (sAug i f φa) := .mk fun env D q H0 F0 bs0 σ G H D' z k => by
  refine PS.wk (ps_aug hN hi hx wkE_ok ho hf) ?_
  obtain ⟨m, em, q⟩ := q
  obtain ⟨_, v, ev, r⟩ := z.slots i _ em
  cases (show Rp X.K G.F v (.int m) from r)
  refine ⟨_, ev, ha _ _ q _ _ _ _ _ _ _ _ z fun v1 w1 env1 G1 H1 q1 x1 => ?_⟩
  split at q1
  · rename_i n
    obtain ⟨G2, x2, _⟩ := (x1.pop.pushV (v := .int (f m n)) (.int (f m n))).store (i := i) nb_val
    exact ⟨m, n, rfl, x1.int1, k.nx _ _ _ _ q1 x2⟩
  · exact q1.elim
/-- one's own list in a slot -/
def isOwn (env : Env) (i : Nat) : Prop := match env[i]? with
  | some (some (.own _)) => True
  | _ => False
theorem isOwn_inv {env : Env} {i : Nat} (h : isOwn env i) : ∃ ds, env[i]? = some (some (.own ds)) := by
  unfold isOwn at h
  split at h
  · exact ⟨_, by assumption⟩
  · exact h.elim
/-- x += ys -/
def sExt (i : Nat) (φ : Phi) : PhiS := fun env D => isOwn env i ∧ φ env fun w e => match e[i]?, w.seq with
  | some (some (.own ds)), some es => ds.length + es.length ≤ sizeLine ∧ D.nx (e.set i (some (.own (ds ++ es))))
  | _, _ => False
theorem rs_ext (i : Nat) {x : Str} {p' : Pos} (hN : X.N.Nodup) (ha : RB X a φa) (hi : X.N[i]? = some x := by rfl) (hx : Loc X.env.scope x := by first | exact Or.inl rfl | exact Or.inr rfl) (hf : X.fn x = true ∨ X.env.scope.names.lookup x = some .local := by first | exact .inl rfl | exact .inr rfl) :
    RS X (.AugAssign (.Name x p') .Add a pos) (sExt i φa) := .mk fun env D q H0 F0 bs0 σ G H D' z k => by
  refine PS.wk (ps_aug (ti := rExt2) hN hi hx wkE_ok (fun pins s σ H x y v u Q I rx ry h => iop_ext pins s σ H x y v u Q I rx ry h) hf) ?_
  obtain ⟨ho, q⟩ := q
  obtain ⟨ds0, h0⟩ := isOwn_inv ho
  obtain ⟨_, v, ev, a, vs0, e0, _⟩ := z.slots i _ h0
  refine ⟨v, ev, ha _ _ q _ _ _ _ _ _ _ _ z fun v1 w1 env1 G1 H1 q1 x1 => ?_⟩
  split at q1
  · rename_i ds es h1 h2
    obtain ⟨_, v', ev', a', vs, e', o, ha', _, _, r⟩ := x1.slots i _ h1
    rw [ev] at ev'
    cases ev'
    obtain ⟨b, us, e2, hb, r2⟩ := x1.seqTop h2
    have x2 := x1.pop.write h1 (by rw [ev, e']) (r.app r2)
    refine ⟨a', b, vs, us, e', e2, ha', hb, by rw [r.len, r2.len]; exact q1.1, k.nx _ _ G1 _ q1.2 ?_⟩
    have es : σ.set i (some (.ref a')) = σ := by
      rw [← e']
      exact List.ext_getElem? fun j => by
        by_cases hj : i = j
        · subst hj
          rw [List.getElem?_set_self (List.getElem?_eq_some_iff.mp ev).1, ev]
        · rw [List.getElem?_set_ne hj]
    rw [es]
    exact x2
  · exact q1.elim
/-- x.append(e) -/
def sApp (i : Nat) (φ : Phi) : PhiS := fun env D => isOwn env i ∧ φ env fun w e => match e[i]?, w.fz with
  | some (some (.own ds)), .val d => ds.length < sizeLine ∧ D.nx (e.set i (some (.own (ds ++ [d]))))
  | _, _ => False
theorem rs_app (i : Nat) {x : Str} {p1 apos cpos : Pos} (ha : RB X a φa) (hN : X.N[i]? = some x := by rfl) (hv : Vis X.env.scope x := by first | exact Or.inl rfl | exact Or.inr (Or.inl rfl) | exact Or.inr (Or.inr rfl)) (hd : (x == ("__debug__" : Str)) = false := by decide)
    (hcd : (x == ("__classdict__" : Str)) = false := by decide) (hline : (apos.endLine == cpos.line) = true := by rfl) (hs : starEach (a :: []) X.env = (false, eval a X.env) :: starEach [] X.env := by rfl)
    (hfew : ((backTo cpos (starEach (a :: []) X.env)).all (fun x => !x.1) && (backToKw cpos (keywordEach [] X.env)).all (fun x => x.1.isSome)
      && decide ((a :: []).length + ([] : List Keyword).length + (if ([] : List Keyword).isEmpty then 0 else 1) < 30)) = true := by rfl) :
    RS X (.Expr (.Call (.Attribute (.Name x p1) "append" apos) [a] [] cpos) pos) (sApp i φa) := .mk fun env D q H0 F0 bs0 σ G H D' z k => by
  refine PS.wk (ps_expr (pe_bm PySem.F.plainAttrs_list PySem.F.slot_list_append PySem.F.type_list_append mt_append (pe_var hN hv hd hcd) (pa_cons wkE_ok pa_nil hs) rfl hfew hline hs rfl)) ?_
  obtain ⟨ho, q⟩ := q
  obtain ⟨ds0, h0⟩ := isOwn_inv ho
  obtain ⟨_, v, ev, a0, vs0, e0, _, ha0, _⟩ := z.slots i _ h0
  refine ⟨v, ev, ?_, ha _ _ q _ _ _ _ _ _ _ _ z fun v1 w1 env1 G1 H1 q1 x1 => ?_⟩
  · rw [e0]; exact .inl ⟨rfl, _, SqL.of ha0⟩
  obtain ⟨G2, x2⟩ := x1.fzTop
  split at q1
  · rename_i ds d h1 h2
    rw [h2] at x2
    obtain ⟨_, v', ev', a', vs, e', o, ha', _, _, r⟩ := x2.slots i _ h1
    rw [ev] at ev'
    cases ev'
    have rd : Rp X.K G2.F v1 d := x2.temps.1
    have x3 := x2.pop.write h1 (by rw [ev, e']) (r.app (.cons rd .nil))
    exact ⟨a', vs, v1, e', rfl, ha', by rw [r.len]; exact q1.1, k.nx _ _ _ _ q1.2 x3⟩
  · exact q1.elim
/-- x[i] = e, x one's own -/
def sPut (i : Nat) (φ φi : Phi) : PhiS := fun env D => φ env fun w e => isOwn e i ∧ φi e fun wi e2 => match e2[i]?, w.fz, wi with
  | some (some (.own ds)), .val d, .val (.int n) => (match ixN ds.length n with
    | some j => D.nx (e2.set i (some (.own (ds.set j d))))
    | none => False)
  | _, _, _ => False
theorem rs_put (i : Nat) {x : Str} {p1 p2 : Pos} (ha : RE X a φa) (hb : RB X b φb) (hN : X.N[i]? = some x := by rfl) (hv : Vis X.env.scope x := by first | exact Or.inl rfl | exact Or.inr (Or.inl rfl) | exact Or.inr (Or.inr rfl)) (hd : (x == ("__debug__" : Str)) = false := by decide)
    (hcd : (x == ("__classdict__" : Str)) = false := by decide)
    (hasg : ∀ v, assign (.Subscript (.Name x p1) b p2) X.env v = (do
      let ov ← holding [v] (eval (.Name x p1) X.env)
      let iv ← holding [v, ov] (eval b X.env)
      standAt p2
      holding [v, ov, iv] (setItem ov iv v)
      release [v, ov, iv] []) := by intro _; rfl)
    (hs : swapsWithSole [.Subscript (.Name x p1) b p2] a pos.line X.env = pure false := by rfl) (hw : swappedStores [.Subscript (.Name x p1) b p2] a X.env = pure none := by rfl)
    (h1 : (assignEach [.Subscript (.Name x p1) b p2] X.env).map (·.2) = [assign (.Subscript (.Name x p1) b p2) X.env] := by rfl) :
    RS X (.Assign [.Subscript (.Name x p1) b p2] a pos) (sPut i φa φb) := .mk fun env D q H0 F0 bs0 σ G H D' z k => by
  refine PS.wk (ps_asg wkE_ok (pg_sub (pe_var hN hv hd hcd) wkE_ok set_list hasg) hs hw h1) ?_
  refine ha _ _ q _ _ _ _ _ _ _ _ z fun v1 w1 env1 G1 H1 q1 x1 => ?_
  obtain ⟨ho, q1⟩ := q1.2
  obtain ⟨G2, x2⟩ := x1.fzTop
  obtain ⟨ds0, h0⟩ := isOwn_inv ho
  obtain ⟨_, v, ev, a0, vs0, e0, _, ha0, _⟩ := x2.slots i _ h0
  refine ⟨v, ev, hb _ _ q1 _ _ _ _ _ _ _ _ x2 fun v2 w2 env2 G3 H3 q2 x3 => ?_⟩
  split at q2
  · rename_i ds d n h1 h2 
    split at q2
    · rename_i j hj
      have x3' := x3
      rw [h2] at x3'
      obtain ⟨_, v', ev', a', vs, e', o, ha', _, _, r⟩ := x3'.slots i _ h1
      rw [ev] at ev'
      cases ev'
      have rd : Rp X.K G3.F v1 d := x3'.pop.temps.1
      have x4 := x3'.pop.pop.write h1 (by rw [ev, e']) (r.set rd j)
      exact ⟨a', vs, n, j, e', x3'.int1, ha', by rw [r.len]; exact hj, k.nx _ _ _ _ q2 x4⟩
    · exact q2.elim
  · exact q2.elim
def sDrop (φ : Phi) : PhiS := fun env D => φ env fun _ e => D.nx e
theorem rs_expr (ha : RB X a φa) (hs : swapsWith a none pos.line X.env = pure false := by rfl) : RS X (.Expr a pos) (sDrop φa) := .mk fun env D q H0 F0 bs0 σ G H D' z k => by
  refine PS.wk (ps_expr wkE_ok hs) ?_
  exact ha _ _ q _ _ _ _ _ _ _ _ z fun v1 w1 env1 G1 H1 q1 x1 => k.nx _ _ _ _ q1 x1.pop
def sRet (φ : Phi) : PhiS := fun env D => φ env fun w _ => D.rt w
theorem rs_ret (ha : RE X a φa) : RS X (.Return (some a) pos) (sRet φa) := .mk fun env D q H0 F0 bs0 σ G H D' z k => by
  refine PS.wk (ps_ret wkE_ok) ?_
  exact ha _ _ q _ _ _ _ _ _ _ _ z fun v1 w1 env1 G1 H1 q1 x1 => k.rt _ _ _ _ _ _ q1.1 q1.2 x1
def sRetV (i : Nat) : PhiS := fun env D => match env[i]? with
  | some (some w) => D.rt w
  | _ => False
theorem Ok.move {K : PySem.W.Frag} {H0 F0 H : Hp} {bs0 : List Addr} {env : Env} {σ : St} {G : Gh} {v : V} {w : W} {i : Nat} (x : Ok K H0 F0 bs0 env [] σ G H) (n : nb w) (r : WR K H0 G H (.inl i) v w) : ∃ G', Ok K H0 F0 bs0 [] [(v, w)] [] G' H := by
  have base : ∀ {G' : Gh}, G'.F = G.F → G'.bs = G.bs → (∀ a ∈ G.bs, G'.O a = none) → (∀ a h, G'.O a = some h → ∃ o, H a = some o) → WR K H0 G' H (.inr 0) v w → ∃ G', Ok K H0 F0 bs0 [] [(v, w)] [] G' H := fun {G'} eF eb hb how h =>
    ⟨G', rfl, by rw [eF]; exact x.sub, x.ext, by rw [eF]; exact x.f0, by rw [eF]; exact x.fnew, by rw [eb]; exact x.bpre, fun a ha => by
      rw [eb] at ha
      obtain ⟨q1, q2, q3, q4⟩ := x.bok a ha
      exact ⟨q1, by rw [eF]; exact q2, hb a ha, q4⟩, how, fun i w h => by simp at h, h, trivial⟩
  cases w with
  | own ds =>
    obtain ⟨a, vs, e, o, ha, fa, h0, q⟩ := r
    refine base (G' := { G with O := fun b => if b = a then some (.inr 0) else none }) rfl rfl (fun b hb => ?_) (fun b h q => ?_) ⟨a, vs, e, by show (if a = a then _ else _) = _; rw [if_pos rfl], ha, fa, h0, q⟩
    · show (if b = a then _ else _) = none
      rw [if_neg]
      rintro rfl
      have := (x.bok b hb).2.2.1
      rw [o] at this; cases this
    · have q : (if b = a then some (Sum.inr 0) else none) = some h := q
      by_cases e : b = a
      · rw [e]; exact ⟨_, ha⟩
      · rw [if_neg e] at q; cases q
  | bor ds => exact absurd rfl (n ds)
  | val d => exact base (G' := G) rfl rfl (fun a h => (x.bok a h).2.2.1) x.ow r
  | bag d => exact base (G' := G) rfl rfl (fun a h => (x.bok a h).2.2.1) x.ow r
  | scr d => exact base (G' := G) rfl rfl (fun a h => (x.bok a h).2.2.1) x.ow r
  | ty d => exact base (G' := G) rfl rfl (fun a h => (x.bok a h).2.2.1) x.ow r
theorem rs_retV (i : Nat) {x : Str} {p1 : Pos} (hN : X.N[i]? = some x := by rfl) (hv : Vis X.env.scope x := by first | exact Or.inl rfl | exact Or.inr (Or.inl rfl) | exact Or.inr (Or.inr rfl)) (hd : (x == ("__debug__" : Str)) = false := by decide)
    (hcd : (x == ("__classdict__" : Str)) = false := by decide) : RS X (.Return (some (.Name x p1)) pos) (sRetV i) := .mk fun env D q H0 F0 bs0 σ G H D' z k => by
  refine PS.wk (ps_ret (pe_var hN hv hd hcd)) ?_
  unfold sRetV at q
  split at q
  · rename_i w hw
    obtain ⟨n, v, e1, r⟩ := z.slots i w hw
    obtain ⟨G', y⟩ := z.move n r
    exact ⟨v, e1, k.rt _ _ _ _ _ _ n q y⟩
  · exact q.elim
def sRetN : PhiS := fun _ D => D.rt (.val .none)
theorem rs_retN : RS X (.Return none pos) sRetN := .mk fun env D q H0 F0 bs0 σ G H D' z k => PS.wk ps_retN (k.rt _ _ _ _ _ _ nb_val q (z.pushV .non))
def sIf (ψ : PhiT) (χ χ' : PhiS) : PhiS := fun env D => ψ env fun k e => if k = true then χ e D else χ' e D
theorem rs_if {c : Expr} {s s' : List Stmt} (hc : RT X c ψ) (h : RSs X s χ) (h' : RSs X s' χ') : RS X (.If c s s' pos) (sIf ψ χ χ') := .mk fun env D q H0 F0 bs0 σ G H D' z k => by
  refine PS.wk (ps_if wkT_ok wkSs_ok wkSs_ok) ?_
  refine hc _ _ q _ _ _ _ _ _ _ _ z fun c env1 G1 H1 q1 x1 => ?_
  cases c with
  | true => exact h _ _ q1 _ _ _ _ _ _ _ x1 k
  | false => exact h' _ _ q1 _ _ _ _ _ _ _ x1 k

/-! ### while -/
def wN (ψ : PhiT) (χ : PhiS) (D : DE) : Nat → Env → Prop
  | 0, _ => False
  | n + 1, env => ψ env fun k e => if k = true then χ e { D with nx := wN ψ χ D n, ct := wN ψ χ D n, bk := D.nx } else D.nx e
def sWhile (ψ : PhiT) (χ : PhiS) : PhiS := fun env D => ∃ n, wN ψ χ D n env
theorem rs_while {c : Expr} {s : List Stmt} (hx : X.xe = fun _ _ => False) (hc : RT X c ψ) (h : RSs X s χ) : RS X (.While c s [] pos) (sWhile ψ χ) := .mk fun env D q H0 F0 bs0 σ G H D' z k => by
  refine PS.wk (ps_while (by rw [hx]; exact PassesOwn.never) wkT_ok wkSs_ok) ?_
  obtain ⟨n, q⟩ := q
  refine ⟨fun m σ H => ∃ env G, Ok X.K H0 F0 bs0 env [] σ G H ∧ wN ψ χ D m env, ⟨n, env, G, z, q⟩, ?_⟩
  rintro m σ H ⟨env, G, z, q⟩
  cases m with
  | zero => exact q.elim
  | succ m =>
    refine hc _ _ q _ _ _ _ _ _ _ _ z fun c env1 G1 H1 q1 x1 => ?_
    cases c with
    | true =>
      refine ⟨fun σ' H' => ∃ env G, Ok X.K H0 F0 bs0 env [] σ' G H' ∧ wN ψ χ D m env, fun σ' H' h => ⟨m, Nat.lt_succ_self m, h⟩, ?_⟩
      exact h _ _ q1 _ _ _ _ _ _ _ x1 ⟨fun e σ G H n y => ⟨e, G, y, n⟩, k.rt, k.nx, fun e σ G H n y => ⟨e, G, y, n⟩⟩
    | false => exact k.nx _ _ _ _ q1 x1

/-! ### what a loop walks -/
/-- the turns bring ds -/
def Feeds (K : PySem.W.Frag) (J : It) (F : Hp) (ds : List PD) : Prop := ∀ i H, Same F H →
  (i < ds.length → J.go i H ∧ ∀ x H', J.yld i H x H' → ∃ d, ds[i]? = some d ∧ ((H' = H ∧ Rp K F x d) ∨ ∃ T vs es, H T = none ∧ H' = upd H T (.tup vs) ∧ x = .ref T ∧ d = .tuple es ∧ RpA K F vs es)) ∧ (ds.length ≤ i → J.stop i H)
def wkI (X : Cx) (tg iter : Expr) : TI := fun σ H R => ∀ pins s, Inv X pins σ H s → wpAny (model X.prog X.w) X.A (eval iter X.env) (fun v s1 => wpAny (model X.prog X.w) X.A (pyIter v) (PIE X pins σ tg R) X.xe s1) X.xe s
theorem wkI_ok {tg iter : Expr} : PI X tg iter (wkI X tg iter) := ⟨fun pins s σ H R I h => h pins s I⟩
theorem PI.wk {tg iter : Expr} {wi : TI} (h : PI X tg iter wi) {σ : St} {H : Hp} {R : It → Hp → Prop} (q : wi σ H R) : wkI X tg iter σ H R := fun pins s I => h.run pins s σ H R I q
abbrev PhiI := Env → (List PD → Env → Prop) → Prop
structure RI (X : Cx) (tg iter : Expr) (ι : PhiI) : Prop where
  go : ∀ env Q, ι env Q → ∀ H0 F0 bs0 ts σ G H (R : It → Hp → Prop), Ok X.K H0 F0 bs0 env ts σ G H →
  (∀ J ds env' G' H', Q ds env' → Ok X.K H0 F0 bs0 env' ts σ G' H' → Feeds X.K J G'.F ds → R J H') → wkI X tg iter σ H R
instance {X : Cx} {tg iter : Expr} {ι : PhiI} : CoeFun (RI X tg iter ι) (fun _ => ∀ env Q, ι env Q → ∀ H0 F0 bs0 ts σ G H (R : It → Hp → Prop), Ok X.K H0 F0 bs0 env ts σ G H →
  (∀ J ds env' G' H', Q ds env' → Ok X.K H0 F0 bs0 env' ts σ G' H' → Feeds X.K J G'.F ds → R J H') → wkI X tg iter σ H R) := ⟨fun h => h.go⟩
def itemsOf : W → Option (List PD)
  | .scr ns => some (ns.map .int)
  | w => w.its
def iSeq (φ : Phi) : PhiI := fun env Q => φ env fun w e => match itemsOf w with
  | some ds => Q ds e
  | none => False
theorem feeds_list {K : PySem.W.Frag} {F : Hp} {a : Addr} {vs : List V} {ds : List PD} (h : SqL K F a vs) (r : RpA K F vs ds) : Feeds K (Itl K a) F ds := fun i H s => by
  refine ⟨fun hi => ?_, fun hi => ⟨vs, s.seq h, by rw [r.len]; exact hi⟩⟩
  obtain ⟨v, hv, rv⟩ := r.get (List.getElem?_eq_getElem hi)
  refine ⟨⟨vs, v, s.seq h, hv⟩, fun x H' y => ?_⟩
  obtain ⟨e, y⟩ := y
  have := y vs (s.seq h)
  rw [hv] at this
  cases this
  exact ⟨_, List.getElem?_eq_getElem hi, .inl ⟨e, rv⟩⟩
end
end Pw
/-! Pw6: loops, comprehensions, promises. -/
namespace Pw
open PySem PySem.Spec PyProof.Rows L2

theorem feeds_tup {K : PySem.W.Frag} {F : Hp} {a : Addr} {vs : List V} {ds : List PD} (h : SqT K F a vs) (r : RpA K F vs ds) : Feeds K (Itt K a) F ds := fun i H s => by
  refine ⟨fun hi => ?_, fun hi => ⟨vs, same_tup s h, by rw [r.len]; exact hi⟩⟩
  obtain ⟨v, hv, rv⟩ := r.get (List.getElem?_eq_getElem hi)
  refine ⟨⟨vs, v, same_tup s h, hv⟩, fun x H' y => ?_⟩
  obtain ⟨e, y⟩ := y
  have := y vs (same_tup s h)
  rw [hv] at this
  cases this
  exact ⟨_, List.getElem?_eq_getElem hi, .inl ⟨e, rv⟩⟩
def rngL (lo : Int) (n : Nat) : List PD := (List.range n).map fun (i : Nat) => PyData.int (lo + (i : Int))
theorem rngL_len {lo : Int} {n : Nat} : (rngL lo n).length = n := by simp [rngL]
theorem rngL_get {lo : Int} {n i : Nat} (h : i < n) : (rngL lo n)[i]? = some (.int (lo + i)) := by
  unfold rngL
  rw [List.getElem?_map, List.getElem?_range h]
  rfl
theorem feeds_range {K : PySem.W.Frag} {F : Hp} {lo : Int} {n : Nat} : Feeds K (Itr lo n) F (rngL lo n) := fun i H s => by
  refine ⟨fun hi => ?_, fun hi => by rw [rngL_len] at hi; exact hi⟩
  rw [rngL_len] at hi
  refine ⟨hi, fun x H' y => ?_⟩
  obtain ⟨e, rfl⟩ := y
  exact ⟨_, rngL_get hi, .inl ⟨e, .int _⟩⟩
def signs (s : Str) : List PD := s.cps.toList.map fun c => .str ⟨#[c]⟩
theorem feeds_str {K : PySem.W.Frag} {F : Hp} {s : Str} : Feeds K (Its s) F (signs s) := fun i H z => by
  have hl : (signs s).length = s.cps.size := by simp [signs]
  refine ⟨fun hi => ?_, fun hi => by rw [hl] at hi; exact hi⟩
  rw [hl] at hi
  refine ⟨hi, fun x H' y => ?_⟩
  obtain ⟨e, c, hc, rfl⟩ := y
  refine ⟨.str ⟨#[c]⟩, ?_, .inl ⟨e, .str _⟩⟩
  unfold signs
  rw [List.getElem?_map, Array.getElem?_toList, hc]
  rfl
section
variable {X : Cx} {e a b : Expr} {es : List Expr} {φ φa φb φe : Phi} {φs : PhiA} {ψ : PhiT} {χ χ' : PhiS} {pos : Pos} {tg iter : Expr} {t : Tg} {ι : PhiI}
/-- a list, a tuple or a text, told when it has come -/
def iAny (K : PySem.W.Frag) (tl : TE) : TI := fun σ H R => tl σ H fun x H1 => (∃ a, x = .ref a ∧ (∃ xs, SqL K H1 a xs) ∧ R (Itl K a) H1) ∨ (∃ a, x = .ref a ∧ (∃ xs, SqT K H1 a xs) ∧ R (Itt K a) H1) ∨ (∃ x', x = .str x' ∧ R (Its x') H1)
theorem pi_any {l : Expr} {tl : TE} (hl : PE X l tl) : PI X tg l (iAny X.K tl) := by
  refine ⟨fun pins s σ H R I h => ?_⟩
  refine thn (hl.run pins s σ H _ I h) fun v s1 ⟨x, H1, I1, r1, q1⟩ => ?_
  rcases q1 with ⟨a, e, ⟨xs, hq⟩, q⟩ | ⟨a, e, ⟨xs, hq⟩, q⟩ | ⟨x', e, q⟩
  · subst e
    cases r1
    obtain ⟨its, rv, p, hz⟩ := I1.list hq
    refine wpAny_pyIter_list p.isList ?_
    refine ⟨s1.heap.objs.size, [s1.heap.objs.size], _, _, H1, rfl, I1.kept (t' := s1.toks) fun b o e => Heap.get?_push_of_some _ e, turn_list a _, ⟨_, Heap.get?_push_size _ rfl, rfl, rfl⟩, fun b hb => ?_, q⟩
    have e : b = s1.heap.objs.size := by simpa using hb
    subst e
    exact I1.fpOk (Nat.le_refl _) (I1.hok.fresh (Nat.le_refl _))
  · subst e
    cases r1
    obtain ⟨its, rv, p, hz⟩ := I1.tuple hq
    refine wpAny_pyIter_tuple (show s1.heap.IsTuple a its.toArray from p) ?_
    refine ⟨s1.heap.objs.size, [s1.heap.objs.size], _, _, H1, rfl, I1.kept (t' := s1.toks) fun b o e => Heap.get?_push_of_some _ e, turn_tuple a _, ⟨_, Heap.get?_push_size _ rfl, rfl, rfl⟩, fun b hb => ?_, q⟩
    have e : b = s1.heap.objs.size := by simpa using hb
    subst e
    exact I1.fpOk (Nat.le_refl _) (I1.hok.fresh (Nat.le_refl _))
  · subst e
    obtain ⟨t, rfl⟩ := r1
    cases ha : x'.cps.all (· < 128)
    · exact wpAny_pyIter_wide ha (pi_one (tk := s1.toks) I1 _ (turn_str _ x' t "str_iterator" (.inr rfl)) ⟨_, Heap.get?_push_size _ rfl, rfl, rfl⟩ q)
    · exact wpAny_pyIter_ascii ha (pi_one (tk := s1.toks) I1 _ (turn_str _ x' t "str_ascii_iterator" (.inl rfl)) ⟨_, Heap.get?_push_size _ rfl, rfl, rfl⟩ q)
/-- items of a plain thing -/
def itemsA : W → Option (List PD)
  | .scr ns => some (ns.map .int)
  | .val (.str s) => some (signs s)
  | w => w.its
def iVal (φ : Phi) : PhiI := fun env Q => φ env fun w e => match itemsA w with
  | some ds => Q ds e
  | none => False
theorem ri_val (ha : RE X a φa) : RI X tg a (iVal φa) := .mk fun env Q q H0 F0 bs0 ts σ G H R x post => by
  refine PI.wk (pi_any wkE_ok) ?_
  refine ha _ _ q _ _ _ _ _ _ _ _ x fun v w env1 G1 H1 q1 x1 => ?_
  obtain ⟨hn, q1⟩ := q1
  obtain ⟨G2, x2⟩ := x1.fzTop
  split at q1
  · rename_i ds hd
    cases w with
    | scr ns =>
      cases hd
      obtain ⟨a, e, hs⟩ := x2.temps.1
      exact .inl ⟨a, e, ⟨_, x2.sub.seq hs⟩, post _ _ _ _ _ q1 x2.pop (feeds_list hs (RpA.ofInts ns))⟩
    | own es =>
      cases hd
      have r : Rp X.K G2.F v (.list ds) := x2.temps.1
      cases r with
      | lst ha r => exact .inl ⟨_, rfl, ⟨_, SqL.of (x2.sub _ _ ha)⟩, post _ _ _ _ _ q1 x2.pop (feeds_list (SqL.of ha) r)⟩
    | bor es => exact absurd rfl (hn es)
    | bag k => cases hd
    | ty k => cases hd
    | val d =>
      cases d with
      | list es =>
        cases hd
        have r : Rp X.K G2.F v (.list ds) := x2.temps.1
        cases r with
        | lst ha r => exact .inl ⟨_, rfl, ⟨_, SqL.of (x2.sub _ _ ha)⟩, post _ _ _ _ _ q1 x2.pop (feeds_list (SqL.of ha) r)⟩
      | tuple es =>
        cases hd
        have r : Rp X.K G2.F v (.tuple ds) := x2.temps.1
        cases r with
        | tup ha r => exact .inr (.inl ⟨_, rfl, ⟨_, same_tup x2.sub ha⟩, post _ _ _ _ _ q1 x2.pop (feeds_tup ha r)⟩)
      | str s =>
        cases hd
        have r : Rp X.K G2.F v (.str s) := x2.temps.1
        cases r
        exact .inr (.inr ⟨_, rfl, post _ _ _ _ _ q1 x2.pop feeds_str⟩)
      | _ => cases hd
  · exact q1.elim
def iRange1 (φ : Phi) : PhiI := fun env Q => φ env fun w e => match w with
  | .val (.int j) => -(2 ^ 62) ≤ j ∧ j < 2 ^ 62 ∧ Q (rngL 0 j.toNat) e
  | _ => False
theorem ri_range1 {p : Pos} (ha : RB X a φa) (hm : X.mg "range" = none) (hg : Gl X "range" := by rfl) (hs : starEach [a] X.env = [(false, eval a X.env)] := by rfl) : RI X tg (.Call (.Name "range" p) [a] [] pos) (iRange1 φa) := .mk fun env Q q H0 F0 bs0 ts σ G H R x post => by
  refine PI.wk (pi_range1 hg hm (pa_cons wkE_ok pa_nil hs) hs) ?_
  refine ha _ _ q _ _ _ _ _ _ _ _ x fun v w env1 G1 H1 q1 x1 => ?_
  split at q1
  · rename_i j
    exact ⟨j, by rw [x1.int1], q1.1, q1.2.1, post _ _ _ _ _ q1.2.2 x1.pop feeds_range⟩
  · exact q1.elim
def iRange2 (φa φb : Phi) : PhiI := fun env Q => φa env fun w1 e1 => φb e1 fun w2 e => match w1, w2 with
  | .val (.int i), .val (.int j) => (-(2 ^ 62) ≤ i ∧ i < 2 ^ 62 ∧ -(2 ^ 62) ≤ j ∧ j < 2 ^ 62) ∧ Q (rngL i (j - i).toNat) e
  | _, _ => False
theorem ri_range2 {p : Pos} (ha : RB X a φa) (hb : RB X b φb) (hm : X.mg "range" = none) (hg : Gl X "range" := by rfl) (hs : starEach [a, b] X.env = [(false, eval a X.env), (false, eval b X.env)] := by rfl) (hs2 : starEach [b] X.env = [(false, eval b X.env)] := by rfl) :
    RI X tg (.Call (.Name "range" p) [a, b] [] pos) (iRange2 φa φb) := .mk fun env Q q H0 F0 bs0 ts σ G H R x post => by
  refine PI.wk (pi_range2 hg hm (pa_cons wkE_ok (pa_cons wkE_ok pa_nil hs2) (by rw [hs, hs2])) hs hs2) ?_
  refine ha _ _ q _ _ _ _ _ _ _ _ x fun v1 w1 env1 G1 H1 q1 x1 => ?_
  refine hb _ _ q1 _ _ _ _ _ _ _ _ x1 fun v2 w2 env2 G2 H2 q2 x2 => ?_
  split at q2
  · rename_i i j
    exact ⟨i, j, by rw [x2.int1, x2.int2], q2.1, post _ _ _ _ _ q2.2 x2.pop.pop feeds_range⟩
  · exact q2.elim

/-! ### for -/
def forL (t : Tg) (χ : PhiS) (D : DE) : List PD → Env → Prop
  | [], env => D.nx env
  | d :: ds, env => t.d (.val d) env fun e => χ e { D with nx := forL t χ D ds, ct := forL t χ D ds, bk := D.nx }
def forK (t : Tg) (χ : PhiS) (D : DE) (ds : List PD) (e : Env) (_ : Tk (t, χ, D) := ⟨⟩) : Prop := forL t χ D ds e
def sFor (ι : PhiI) (t : Tg) (χ : PhiS) : PhiS := fun env D => ι env fun ds e => forK t χ D ds e
theorem Ok.rebase {K : PySem.W.Frag} {H0 F0 F1 H : Hp} {bs0 : List Addr} {env : Env} {ts : List (V × W)} {σ : St} {G : Gh} (x : Ok K H0 F0 bs0 env ts σ G H) (h0 : Same F0 F1) (h1 : Same F1 G.F) : Ok K H0 F1 bs0 env ts σ G H :=
  ⟨x.len, x.sub, x.ext, h1, fun a o q z => x.fnew a o q (h0.free z), x.bpre, x.bok, x.ow, x.slots, x.temps⟩
theorem Ok.unbase {K : PySem.W.Frag} {H0 F0 F1 H : Hp} {bs0 : List Addr} {env : Env} {ts : List (V × W)} {σ : St} {G : Gh} (x : Ok K H0 F1 bs0 env ts σ G H) (h0 : Same F0 F1) (h1 : ∀ a o, F1 a = some o → F0 a = none → H0 a = none) : Ok K H0 F0 bs0 env ts σ G H :=
  ⟨x.len, x.sub, x.ext, h0.trans x.f0, fun a o q z => by
    cases e : F1 a with
    | none => exact x.fnew a o q e
    | some u => exact h1 a u e z, x.bpre, x.bok, x.ow, x.slots, x.temps⟩
theorem Dn.rebase {K : PySem.W.Frag} {H0 F0 F1 : Hp} {bs0 : List Addr} {D : DE} {D' : Ends} (k : Dn K H0 F0 bs0 D D') (h0 : Same F0 F1) (h1 : ∀ a o, F1 a = some o → F0 a = none → H0 a = none) : Dn K H0 F1 bs0 D D' :=
  ⟨fun e σ G H n x => k.nx e σ G H n (x.unbase h0 h1), fun v w e σ G H nb n x => k.rt v w e σ G H nb n (x.unbase h0 h1), fun e σ G H n x => k.bk e σ G H n (x.unbase h0 h1), fun e σ G H n x => k.ct e σ G H n (x.unbase h0 h1)⟩
/-- a turn's item, held -/
theorem Ok.item {K : PySem.W.Frag} {H0 F0 H H' : Hp} {bs0 : List Addr} {env : Env} {ts : List (V × W)} {σ : St} {G : Gh} {v : V} {d : PD} (x : Ok K H0 F0 bs0 env ts σ G H)
    (h : (H' = H ∧ Rp K F0 v d) ∨ ∃ T vs es, H T = none ∧ H' = upd H T (.tup vs) ∧ v = .ref T ∧ d = .tuple es ∧ RpA K F0 vs es) : ∃ G', Ok K H0 F0 bs0 env ((v, .val d) :: ts) σ G' H' := by
  rcases h with ⟨rfl, r⟩ | ⟨T, vs, es, hT, rfl, rfl, rfl, r⟩
  · exact ⟨G, x.pushV (r.mono x.f0)⟩
  · exact ⟨_, x.newT hT (r.mono x.f0)⟩
theorem rs_for {body : List Stmt} (hx : X.xe = fun _ _ => False) (hc : X.calm = true) (hi : RI X tg iter ι) (hg : RG X tg t) (hb : RSs X body χ) (hs : ∀ x, foldedSetIterable iter X.env x = pure x := by intro _; rfl) :
    RS X (.For tg iter body [] pos) (sFor ι t χ) := .mk fun env D q H0 F0 bs0 σ G H D' z k => by
  refine PS.wk (ps_for (by rw [hx]; exact PassesOwn.never) hc wkI_ok hg wkSs_ok hs) ?_
  refine hi _ _ q _ _ _ _ _ _ _ _ z fun J ds env1 G1 H1 q1 x1 fd => ?_
  have f0 : Same F0 G1.F := x1.f0
  have f1 : ∀ a o, G1.F a = some o → F0 a = none → H0 a = none := x1.fnew
  have k1 := k.rebase f0 f1
  refine ⟨fun i m σ H => ∃ env G, Ok X.K H0 G1.F bs0 env [] σ G H ∧ m = ds.length - i ∧ i ≤ ds.length ∧ forL t χ D (ds.drop i) env, ⟨ds.length, env1, G1, x1.rebase f0 (Same.refl _), by simp, Nat.zero_le _, q1⟩, ?_⟩
  rintro i m σ H ⟨env, G, x, rfl, hi, q⟩
  by_cases hlt : i < ds.length
  · obtain ⟨go, yl⟩ := (fd i H (x.f0.trans x.sub)).1 hlt
    refine .inr ⟨go, fun σ' H' => ∃ env G, Ok X.K H0 G1.F bs0 env [] σ' G H' ∧ forL t χ D (ds.drop (i + 1)) env, fun σ' H' ⟨e, G, y, n⟩ => ⟨ds.length - (i + 1), by omega, e, G, y, rfl, hlt, n⟩, fun v H' y => ?_⟩
    obtain ⟨d, hd, hv⟩ := yl v H' y
    obtain ⟨G2, x2⟩ := x.item hv
    rw [List.drop_eq_getElem_cons hlt, show ds[i] = d from by rw [List.getElem?_eq_getElem hlt] at hd; exact Option.some.inj hd] at q
    refine t.ok x2 nb_val q fun env' σ' G' n _ y => ?_
    exact hb _ _ n _ _ _ _ _ _ _ y ⟨fun e σ G H n y => ⟨e, G, y, n⟩, k1.rt, k1.nx, fun e σ G H n y => ⟨e, G, y, n⟩⟩
  · have e : i = ds.length := by omega
    subst e
    rw [List.drop_length] at q
    exact .inl ⟨(fd _ H (x.f0.trans x.sub)).2 (Nat.le_refl _), k1.nx _ _ _ _ q x⟩

/-! ### comprehensions -/
def wipeE (env : Env) : List Nat → Env
  | [] => env
  | v :: vs => (wipeE env vs).set v none
theorem wipe_set {σ : St} {j : Nat} {x : Option V} : ∀ {vs : List Nat}, j ∈ vs → wipe (σ.set j x) vs = wipe σ vs
  | [], h => by cases h
  | v :: vs, h => by
    unfold wipe
    by_cases hj : j ∈ vs
    · rw [wipe_set hj]
    · have e : j = v := by
        rcases List.mem_cons.mp h with e | e
        · exact e
        · exact absurd e hj
      subst e
      have : ∀ {us : List Nat} {σ : St}, j ∉ us → wipe (σ.set j x) us = (wipe σ us).set j x := fun {us} => by
        induction us with
        | nil => intro σ _; rfl
        | cons u us ih =>
          intro σ hu
          have h1 : j ≠ u := fun e => hu (by rw [e]; exact List.mem_cons_self)
          have h2 : j ∉ us := fun e => hu (List.mem_cons_of_mem _ e)
          unfold wipe
          rw [ih h2, List.set_comm _ _ h1]
      rw [this hj, List.set_set]
theorem wipe_wipe {σ : St} : ∀ {us vs : List Nat}, (∀ u ∈ us, u ∈ vs) → wipe (wipe σ us) vs = wipe σ vs
  | [], _, _ => rfl
  | u :: us, vs, h => by
    show wipe ((wipe σ us).set u none) vs = _
    rw [wipe_set (h u List.mem_cons_self), wipe_wipe (fun w hw => h w (List.mem_cons_of_mem _ hw))]
theorem wipe_many {vs : List Nat} : ∀ {js : List Nat} {us : List V} {σ : St}, (∀ j ∈ js, j ∈ vs) → wipe (setManyV σ js us) vs = wipe σ vs
  | [], us, σ, _ => by cases us <;> rfl
  | j :: js, [], σ, _ => rfl
  | j :: js, u :: us, σ, h => by
    show L2.wipe (setManyV (σ.set j (some u)) js us) vs = _
    rw [wipe_many (fun w hw => h w (List.mem_cons_of_mem _ hw)), wipe_set (h j List.mem_cons_self)]
theorem Ok.wiped {K : PySem.W.Frag} {H0 F0 H : Hp} {bs0 : List Addr} {env : Env} {ts : List (V × W)} {σ : St} {G : Gh} (x : Ok K H0 F0 bs0 env ts σ G H) : ∀ vs, Ok K H0 F0 bs0 (wipeE env vs) ts (wipe σ vs) G H
  | [] => x
  | v :: vs => by
    have y := Ok.wiped x vs
    refine ⟨by show ((wipeE env vs).set v none).length = ((L2.wipe σ vs).set v none).length; simpa using y.len, y.sub, y.ext, y.f0, y.fnew, y.bpre, y.bok, y.ow, fun i w hw => ?_, y.temps⟩
    have hw : ((wipeE env vs).set v none)[i]? = some (some w) := hw
    by_cases hv : v = i
    · subst hv
      by_cases hl : v < (wipeE env vs).length
      · rw [List.getElem?_set_self hl] at hw; cases hw
      · rw [List.getElem?_eq_none (by simpa using hl)] at hw; cases hw
    · rw [List.getElem?_set_ne hv] at hw
      obtain ⟨n, v', e, r⟩ := y.slots i w hw
      exact ⟨n, v', by show ((L2.wipe σ vs).set v none)[i]? = _; rw [List.getElem?_set_ne hv]; exact e, r⟩
theorem Ok.unwipe {K : PySem.W.Frag} {H0 F0 H : Hp} {bs0 : List Addr} {env : Env} {ts : List (V × W)} {σ : St} {G : Gh} {vs : List Nat} (x : Ok K H0 F0 bs0 (wipeE env vs) ts (wipe σ vs) G H) : Ok K H0 F0 bs0 (wipeE env vs) ts σ G H := by
  refine ⟨x.len.trans (wipe_length σ vs), x.sub, x.ext, x.f0, x.fnew, x.bpre, x.bok, x.ow, fun i w hw => ?_, x.temps⟩
  obtain ⟨n, v, e, r⟩ := x.slots i w hw
  exact ⟨n, v, (wipe_some e).1, r⟩
/-- a temp's own list grows -/
theorem Ok.grow {K : PySem.W.Frag} {H0 F0 H : Hp} {bs0 : List Addr} {env : Env} {ts : List (V × W)} {σ : St} {G : Gh} {Dl : Addr} {acc acc' : List PD} {us : List V} (x : Ok K H0 F0 bs0 env ((.ref Dl, .own acc) :: ts) σ G H) (r' : RpA K G.F us acc') : Ok K H0 F0 bs0 env ((.ref Dl, .own acc') :: ts) σ G (upd H Dl (.lst us)) := by
  obtain ⟨b, vs, e, o, ha, fa, h0, r⟩ := x.temps.1
  cases e
  have oth : ∀ {h : Holder} {v' : V} {w' : W}, h ≠ .inr ts.length → WR K H0 G H h v' w' → WR K H0 G (upd H Dl (.lst us)) h v' w' := fun {h v' w'} nh y => by
    cases w' with
    | own ds' =>
      obtain ⟨b, us', e', o', ha', z⟩ := y
      refine ⟨b, us', e', o', ?_, z⟩
      rw [upd_ne]
      · exact ha'
      · rintro rfl
        rw [o] at o'
        exact nh (Option.some.inj o').symm
    | bor ds' =>
      obtain ⟨b, us', i, e', o', ha', z⟩ := y
      refine ⟨b, us', i, e', o', ?_, z⟩
      rw [upd_ne]
      · exact ha'
      · rintro rfl
        rw [o] at o'
        cases o'
    | val d => exact y
    | bag k => exact y
    | scr ns => exact y
    | ty n => exact y
  have all : ∀ {us' : List (V × W)}, us'.length ≤ ts.length → TsOk K H0 G H us' → TsOk K H0 G (upd H Dl (.lst us)) us' := fun {us'} => by
    induction us' with
    | nil => intro _ _; trivial
    | cons q us' ih =>
      intro hl ⟨a, b⟩
      have hl' : us'.length + 1 ≤ ts.length := hl
      exact ⟨oth (fun z => by have := Sum.inr.inj z; omega) a, ih (by omega) b⟩
  refine ⟨x.len, fun b u q => ?_, fun b u nb q => ?_, x.f0, x.fnew, x.bpre, fun b hb => ?_, fun b k q => (by
    by_cases hb : b = Dl
    · rw [hb, upd_same]; exact ⟨_, rfl⟩
    · rw [upd_ne hb]; exact x.ow b k q), fun j w' hw' => ?_, ⟨Dl, us, rfl, o, upd_same, fa, h0, r'⟩, all (Nat.le_refl _) x.temps.2⟩
  · have ne : b ≠ Dl := by rintro rfl; rw [fa] at q; cases q
    rw [upd_ne ne]; exact x.sub b u q
  · have ne : b ≠ Dl := by rintro rfl; rw [h0] at q; cases q
    rw [upd_ne ne]; exact x.ext b u nb q
  · obtain ⟨⟨i, j, e1, e2⟩, q2, q3, q4⟩ := x.bok b hb
    have ne : b ≠ Dl := by rintro rfl; rw [o] at q3; cases q3
    exact ⟨⟨i, j, by rw [upd_ne ne]; exact e1, e2⟩, q2, q3, q4⟩
  · obtain ⟨n, v', e', y⟩ := x.slots j w' hw'
    exact ⟨n, v', e', oth (by simp) y⟩
theorem wipeE_out {env : Env} {i : Nat} : ∀ {vs : List Nat}, i ∉ vs → (wipeE env vs)[i]? = env[i]?
  | [], _ => rfl
  | v :: vs, h => by
    show ((wipeE env vs).set v none)[i]? = _
    rw [List.getElem?_set_ne (fun z => h (by rw [z]; exact List.mem_cons_self)), wipeE_out (fun z => h (List.mem_cons_of_mem _ z))]
theorem wipeE_some {env : Env} {i : Nat} {w : W} : ∀ {vs : List Nat}, (wipeE env vs)[i]? = some (some w) → env[i]? = some (some w) ∧ i ∉ vs
  | [], h => ⟨h, by simp⟩
  | v :: vs, h => by
    have h : ((wipeE env vs).set v none)[i]? = some (some w) := h
    by_cases hv : v = i
    · subst hv
      by_cases hl : v < (wipeE env vs).length
      · rw [List.getElem?_set_self hl] at h; cases h
      · rw [List.getElem?_eq_none (by simpa using hl)] at h; cases h
    · rw [List.getElem?_set_ne hv] at h
      obtain ⟨h1, h2⟩ := wipeE_some h
      exact ⟨h1, by simp only [List.mem_cons, not_or]; exact ⟨fun e => hv e.symm, h2⟩⟩
/-- the items kept by a comprehension -/
def compL (t : Tg) (ψ : PhiT) (φ : Phi) (e0 : Env) (Q : List PD → Prop) : List PD → List PD → Prop
  | [], acc => Q acc
  | d :: ds, acc => t.d (.val d) e0 fun e1 => ψ e1 fun k e2 => e2 = e1 ∧ if k = true then φ e1 fun w e3 => e3 = e1 ∧ (match w.fz with
    | .val y => acc.length < sizeLine ∧ compL t ψ φ e0 Q ds (acc ++ [y])
    | _ => False) else compL t ψ φ e0 Q ds acc
def compK (t : Tg) (ψ : PhiT) (φ : Phi) (e0 : Env) (Q : List PD → Prop) (ds acc : List PD) (_ : Tk (t, ψ, φ, Q) := ⟨⟩) : Prop := compL t ψ φ e0 Q ds acc
def pComp (ι : PhiI) (t : Tg) (ψ : PhiT) (φ : Phi) (vs : List Nat) : Phi := fun env Q => ι env fun ds e1 => compK t ψ φ (wipeE e1 vs) (fun r => Q (.own r) (wipeE e1 vs)) ds []
/-- a clause's tests -/
def RTs (X : Cx) (ifs : List Expr) (ψ : PhiT) : Prop := ∃ t, PTs X ifs t ∧ ∀ env Q, ψ env Q → ∀ H0 F0 bs0 ts σ G H Q', Ok X.K H0 F0 bs0 env ts σ G H → (∀ b env' G' H', Q b env' → Ok X.K H0 F0 bs0 env' ts σ G' H' → Q' b H') → t σ H Q'
def pYes : PhiT := fun env Q => Q true env
theorem comp_go {g : Tg} {ψ : PhiT} {φe : Phi} {vs : List Nat} {tt : TT} {te : TE} {env : Env} {Q : W → Env → Prop} (hsl : ∀ j ∈ g.slots, j ∈ vs)
    (hi : RI X tg iter ι) (ht : ∀ env Q, ψ env Q → ∀ H0 F0 bs0 ts σ G H Q', Ok X.K H0 F0 bs0 env ts σ G H → (∀ b env' G' H', Q b env' → Ok X.K H0 F0 bs0 env' ts σ G' H' → Q' b H') → tt σ H Q')
    (he : ∀ env Q, φe env Q → ∀ H0 F0 bs0 ts σ G H Q', Ok X.K H0 F0 bs0 env ts σ G H → (∀ v w env' G' H', nb w → Q w env' → Ok X.K H0 F0 bs0 env' ((v, w) :: ts) σ G' H' → Q' v H') → te σ H Q')
    (q : pComp ι g ψ φe vs env Q) {H0 F0 : Hp} {bs0 : List Addr} {ts : List (V × W)} {σ : St} {G : Gh} {H : Hp} {Q' : VK} (x : Ok X.K H0 F0 bs0 env ts σ G H)
    (post : ∀ v w env' G' H', nb w → Q w env' → Ok X.K H0 F0 bs0 env' ((v, w) :: ts) σ G' H' → Q' v H') : tLc (wkI X tg iter) (g.g X.K) tt te vs σ H Q' := by
  refine hi _ _ q _ _ _ _ _ _ _ _ x fun J ds env1 G1 H1 q1 x1 fd Dl hD => ?_
  have f0 : Same F0 G1.F := x1.f0
  have f1 : ∀ a o, G1.F a = some o → F0 a = none → H0 a = none := x1.fnew
  have start := ((x1.rebase f0 (Same.refl _)).wiped vs).newL hD .nil
  refine ⟨fun i m H => ∃ acc G, Ok X.K H0 G1.F bs0 (wipeE env1 vs) ((.ref Dl, .own acc) :: ts) (L2.wipe σ vs) G H ∧ m = ds.length - i ∧ i ≤ ds.length ∧ compL g ψ φe (wipeE env1 vs) (fun r => Q (.own r) (wipeE env1 vs)) (ds.drop i) acc,
    ⟨ds.length, [], _, start, by simp, Nat.zero_le _, q1⟩, ?_⟩
  rintro i m H ⟨acc, G, y, rfl, hi, q⟩
  by_cases hlt : i < ds.length
  · obtain ⟨go, yl⟩ := (fd i H (y.f0.trans y.sub)).1 hlt
    refine .inr ⟨go, fun H' => ∃ acc G, Ok X.K H0 G1.F bs0 (wipeE env1 vs) ((.ref Dl, .own acc) :: ts) (L2.wipe σ vs) G H' ∧ compL g ψ φe (wipeE env1 vs) (fun r => Q (.own r) (wipeE env1 vs)) (ds.drop (i + 1)) acc,
      fun H' ⟨acc, G, y, n⟩ => ⟨ds.length - (i + 1), by omega, acc, G, y, rfl, hlt, n⟩, fun v H' yy => ?_⟩
    obtain ⟨d, hd, hv⟩ := yl v H' yy
    obtain ⟨G2, y2⟩ := y.item hv
    rw [List.drop_eq_getElem_cons hlt, show ds[i] = d from by rw [List.getElem?_eq_getElem hlt] at hd; exact Option.some.inj hd] at q
    refine g.ok y2 nb_val q fun e1 σ2 G3 n ⟨⟨us, _, hs⟩, agr⟩ y3 => ?_
    have hw : L2.wipe σ2 vs = L2.wipe σ vs := by
      subst hs
      cases g with
      | var j =>
        cases us with
        | nil => exact wipe_wipe fun _ h => h
        | cons u us =>
          have hj : j ∈ vs := hsl j List.mem_cons_self
          show L2.wipe (setManyV (L2.wipe σ vs) [j] (u :: us)) vs = _
          rw [wipe_many (fun w h => by have : w = j := by simpa using h
                                       rw [this]; exact hj), wipe_wipe fun _ h => h]
      | tup js => rw [wipe_many hsl, wipe_wipe fun _ h => h]
    refine ⟨hw, ht _ _ n _ _ _ _ _ _ _ _ y3 fun k e2 G4 H4 q4 y4 => ?_⟩
    obtain ⟨rfl, q4⟩ := q4
    have back : ∀ {G : Gh} {H : Hp} {acc : List PD}, Ok X.K H0 G1.F bs0 e2 ((.ref Dl, .own acc) :: ts) σ2 G H → Ok X.K H0 G1.F bs0 (wipeE env1 vs) ((.ref Dl, .own acc) :: ts) (L2.wipe σ vs) G H := fun {G H acc} z => by
      have hz := z.wiped vs
      rw [hw] at hz
      refine ⟨y.len, hz.sub, hz.ext, hz.f0, hz.fnew, hz.bpre, hz.bok, hz.ow, fun i w hi => ?_, hz.temps⟩
      obtain ⟨_, ni⟩ := wipeE_some hi
      refine hz.slots i w ?_
      rw [wipeE_out ni, agr i (fun z => ni (hsl i z))]
      exact hi
    cases k with
    | true =>
      show te σ2 H4 _
      refine he _ _ q4 _ _ _ _ _ _ _ _ y4 fun u w e3 G5 H5 hn q5 y5 => ?_
      obtain ⟨rfl, q5⟩ := q5
      obtain ⟨G6, y6⟩ := y5.fzTop
      split at q5
      · rename_i d' hd'
        rw [hd'] at y6
        obtain ⟨b, us, e, o, ha, fa, h0, r⟩ := y6.pop.temps.1
        cases e
        have rd : Rp X.K G6.F u d' := y6.temps.1
        refine ⟨us, ha, by rw [r.len]; exact q5.1, _, G6, back (y6.pop.grow (r.app (.cons rd .nil))), q5.2⟩
      · exact q5.elim
    | false => exact ⟨acc, G4, back y4, q4⟩
  · have e : i = ds.length := by omega
    subst e
    rw [List.drop_length] at q
    exact .inl ⟨(fd _ H (y.f0.trans y.sub)).2 (Nat.le_refl _), post _ _ _ _ _ nb_own q (y.unwipe.unbase f0 f1)⟩
theorem rts_nil : RTs X [] pYes := ⟨_, pts_nil, fun env Q q H0 F0 bs0 ts σ G H Q' x post => post _ _ _ _ q x⟩
theorem rts_one {c : Expr} (h : RT X c ψ) : RTs X [c] ψ := ⟨_, pts_one wkT_ok, fun env Q q H0 F0 bs0 ts σ G H Q' x post => h env Q q H0 F0 bs0 ts σ G H Q' x post⟩
/-- a reading that every context of a block allows -/
def RBlkE (X : Cx) (scope : Scope) (e : Expr) (φ : Phi) : Prop := ∀ (s : Shared) (H : Hp) (C : Addr) (cl : List (Str × Addr)) (fp : List Addr), RE (X.blk s H scope (compEnvC scope cl C X.env) fp) e φ
def RBlkT (X : Cx) (scope : Scope) (ifs : List Expr) (ψ : PhiT) : Prop := ∀ (s : Shared) (H : Hp) (C : Addr) (cl : List (Str × Addr)) (fp : List Addr), RTs (X.blk s H scope (compEnvC scope cl C X.env) fp) ifs ψ
def RBlkG (X : Cx) (scope : Scope) (tg : Expr) (t : Tg) : Prop := ∀ (s : Shared) (H : Hp) (C : Addr) (cl : List (Str × Addr)) (fp : List Addr), RG (X.blk s H scope (compEnvC scope cl C X.env) fp) tg t
/-- what such a test's reading is, below: all that it is asked for -/
def tSemT (K : PySem.W.Frag) (ψ : PhiT) : TT := fun σ H Q => ∃ env H0 F0 bs0 ts G P, Ok K H0 F0 bs0 env ts σ G H ∧ ψ env P ∧ ∀ b env' G' H', P b env' → Ok K H0 F0 bs0 env' ts σ G' H' → Q b H'
def tSemE (K : PySem.W.Frag) (φ : Phi) : TE := fun σ H Q => ∃ env H0 F0 bs0 ts G P, Ok K H0 F0 bs0 env ts σ G H ∧ φ env P ∧ ∀ v w env' G' H', nb w → P w env' → Ok K H0 F0 bs0 env' ((v, w) :: ts) σ G' H' → Q v H'
theorem blkT {scope : Scope} {ifs : List Expr} (h : RBlkT X scope ifs ψ) : ∀ (s : Shared) (H : Hp) (C : Addr) (cl : List (Str × Addr)) (fp : List Addr), PTs (X.blk s H scope (compEnvC scope cl C X.env) fp) ifs (tSemT X.K ψ) := fun s H C cl fp => by
  obtain ⟨t, h1, h2⟩ := h s H C cl fp
  exact ⟨fun pins s σ H Q I ⟨env, H0, F0, bs0, ts, G, P, x, q, post⟩ => h1.run pins s σ H Q I (h2 env P q H0 F0 bs0 ts σ G H Q x post)⟩
theorem blkE {scope : Scope} (h : RBlkE X scope e φe) : ∀ (s : Shared) (H : Hp) (C : Addr) (cl : List (Str × Addr)) (fp : List Addr), PE (X.blk s H scope (compEnvC scope cl C X.env) fp) e (tSemE X.K φe) := fun s H C cl fp =>
  ⟨fun pins s1 σ H1 Q I ⟨env, H0, F0, bs0, ts, G, P, x, q, post⟩ => h s H C cl fp env P q H0 F0 bs0 ts σ G H1 Q x (fun v w env' G' H' q y => post v w env' G' H' q.1 q.2 y) pins s1 I⟩
theorem re_comp {elt : Expr} {ifs : List Expr} {scope : Scope} {own : List (Str × Nat)} (hx : X.calm = true) (hN : X.N.Nodup) (hi : RI X tg iter ι) (ok : BlkOk X.N X.env.scope scope own) (hg : RBlkG X scope tg t) (ht : RBlkT X scope ifs ψ) (he : RBlkE X scope elt φe)
    (hsl : ∀ j ∈ t.slots, j ∈ own.map (·.2) := by decide) (hs : ∀ x, foldedSetIterable iter X.env x = pure x := by intro _; rfl) : RE X (.ListComp elt [⟨tg, iter, ifs, 0⟩] scope pos) (pComp ι t ψ φe (own.map (·.2))) := .mk fun env Q q H0 F0 bs0 ts σ G H Q' x post => by
  refine PE.wk (pe_lc (g := t.g X.K) hx hN wkI_ok ok (fun s H C cl fp => hg s H C cl fp) (blkT ht) (blkE he) hs) ?_
  exact comp_go hsl hi (fun env Q q H0 F0 bs0 ts σ G H Q' x post => ⟨env, H0, F0, bs0, ts, G, Q, x, q, post⟩) (fun env Q q H0 F0 bs0 ts σ G H Q' x post => ⟨env, H0, F0, bs0, ts, G, Q, x, q, post⟩) q x fun v w e G H hn hq hx => post v w e G H ⟨hn, hq⟩ hx
/-- x = [..] on one line -/
theorem rs_setLc (j : Nat) {y : Str} {py : Pos} {elt : Expr} {ifs : List Expr} {scope : Scope} {own : List (Str × Nat)} {spos : Pos} (hx : X.calm = true) (hN : X.N.Nodup) (hi : RI X tg iter ι) (ok : BlkOk X.N X.env.scope scope own) (hg : RBlkG X scope tg t) (ht : RBlkT X scope ifs ψ) (he : RBlkE X scope elt φe)
    (hsw : swapsWith (.ListComp elt [⟨tg, iter, ifs, 0⟩] scope pos) (some (.Name y py)) spos.line X.env = pure true)
    (hy : X.N[j]? = some y := by rfl) (hyl : X.env.scope.names.lookup y = some .local := by rfl) (hsl : ∀ j ∈ t.slots, j ∈ own.map (·.2) := by decide) (hs : ∀ x, foldedSetIterable iter X.env x = pure x := by intro _; rfl) :
    RS X (.Assign [.Name y py] (.ListComp elt [⟨tg, iter, ifs, 0⟩] scope pos) spos) (sAsg (pComp ι t ψ φe (own.map (·.2))) (.var j)) := .mk fun env D q H0 F0 bs0 σ G H D' x k => by
  refine PS.wk (ps_setLc (g := t.g X.K) hx hN hy hyl hsw wkI_ok ok (fun s H C cl fp => hg s H C cl fp) (blkT ht) (blkE he) hs) ?_
  exact comp_go hsl hi (fun env Q q H0 F0 bs0 ts σ G H Q' x post => ⟨env, H0, F0, bs0, ts, G, Q, x, q, post⟩) (fun env Q q H0 F0 bs0 ts σ G H Q' x post => ⟨env, H0, F0, bs0, ts, G, Q, x, q, post⟩) q x fun v w e G H hn hq hx => by
    exact Tg.ok (.var j) hx hn hq fun env' σ' G' n _ y => k.nx _ _ _ _ n y
end

/-! ### a def keeps its promise -/
def env0 (n : Nat) (ws : List W) : Env := ws.map some ++ List.replicate (n - ws.length) none
def DE.ret (P : W → Prop) : DE := { nx := fun _ => P (.val .none), rt := P }
theorem slots_start {K : PySem.W.Frag} {H0 H : Hp} {G : Gh} : ∀ {vs : List V} {ws : List W} {n m : Nat}, PRs K G.F G.bs vs ws → ∀ (i : Nat) (w : W), (ws.map some ++ List.replicate n none)[i]? = some (some w) → nb w ∧ ∃ v, (vs.map some ++ List.replicate m none)[i]? = some (some v) ∧ ∀ h, WR K H0 G H h v w
  | [], [], n, m, _, i, w, e => by
    rw [List.map_nil, List.nil_append, List.getElem?_replicate] at e
    split at e <;> cases e
  | v :: vs, w :: ws, n, m, r, 0, w', e => by
    have e : some (some w) = some (some w') := e
    cases e
    have q := r.1
    cases w with
    | own ds => exact q.elim
    | bor ds => exact q.elim
    | val d => exact ⟨nb_val, v, rfl, fun _ => q⟩
    | bag d => exact ⟨nb_bag, v, rfl, fun _ => q⟩
    | scr d => exact ⟨nb_scr, v, rfl, fun _ => q⟩
    | ty d => exact ⟨nb_ty, v, rfl, fun _ => q⟩
  | v :: vs, w :: ws, n, m, r, i + 1, w', e => slots_start (vs := vs) (ws := ws) (n := n) (m := m) r.2 i w' e
  | [], _ :: _, _, _, r, _, _, _ => r.elim
  | _ :: _, [], _, _, r, _, _, _ => r.elim
section
variable {P : Program} {w : World} {K : PySem.W.Frag} {mg : Str → Option Value} {base : Heap}
/-- the context of a def's body -/
abbrev cx0 (P : Program) (w : World) (K : PySem.W.Frag) (mg : Str → Option Value) (base : Heap) (N : List Str) (qual : Str) (sc : Scope) (f : Addr) (cdv : Value) (A : Around) (outer : List PySem.Env) (s : Shared) (H : Hp) (E : XK) : Cx := (cxOf CX0 P w K mg base N qual sc f cdv A outer s H E).nox
theorem fn_ok {x qual : Str} {st : Stmt} {f : Addr} {fd : FuncData} {N ps : List Str} {k : Nat} {sp : Spec} (F : Fun K x qual st f fd) (S : FnScope N ps (defScope st)) (len : ∀ ws P, sp ws P → ws.length = ps.length)
    (body : ∀ (cdv : Value) (A : Around) (outer : List PySem.Env) (s : Shared) (H : Hp) (E : XK), Room k (cx0 P w K mg base N qual (defScope st) f cdv A outer s H E).A → ∃ χ, RSs (cx0 P w K mg base N qual (defScope st) f cdv A outer s H E) (defBody st) χ ∧ ∀ ws P, sp ws P → χ (env0 N.length ws) (DE.ret P)) :
    FnOk P w K mg base CX0 (k + 1) f fd ps (spOf K sp) := by
  refine F.ok S (fun vs H Q E h => ?_) (fun cdv A outer s H vs Q E hr h => ?_)
  · obtain ⟨F, bs, ws, _, _, r, P, q, _⟩ := h
    rw [r.len]; exact len _ _ q
  · obtain ⟨F, bs, ws, sF, hb, r, P, q, post⟩ := h
    obtain ⟨χ, h1, h2⟩ := body cdv A outer s H E hr
    refine ⟨_, wkSs_ok, h1 _ _ (h2 ws P q) H F bs (L2.start N vs) { F := F, bs := bs, O := fun _ => none } H _ ?_ ⟨?_, ?_, ?_, ?_⟩⟩
    · refine ⟨?_, sF, fun a o _ e => e, Same.refl _, (fun a o e z => by have e : F a = some o := e; rw [e] at z; cases z), ⟨[], by simp⟩, fun a ha => ⟨(hb a ha).1, (hb a ha).2, rfl, .inl ha⟩, fun a h e => (nomatch e), fun i w e => ?_, trivial⟩
      · unfold env0 L2.start
        rw [List.length_append, List.length_append, List.length_map, List.length_map, List.length_replicate, List.length_replicate, r.len]
      · obtain ⟨n, v, e1, e2⟩ := slots_start (G := { F := F, bs := bs, O := fun _ => none }) (H0 := H) (H := H) (m := N.length - vs.length) r i w e
        exact ⟨n, v, e1, e2 _⟩
    · intro e σ G H' n y
      obtain ⟨G', z⟩ := (y.pushV (v := V.non) .non).pop.move (i := 0) (v := V.non) (w := .val .none) nb_val .non
      exact post _ n _ _ _ nb_val z
    · intro v u e σ G H' n d y
      refine post _ d v G H' n ⟨rfl, y.sub, y.ext, y.f0, y.fnew, y.bpre, y.bok, y.ow, fun i w h => by simp at h, y.temps⟩
    · intro e σ G H' n y
      exact n.elim
    · intro e σ G H' n y
      exact n.elim
end
end Pw
/-! Pw7: the operators' pairs by name. -/
namespace Pw
open PySem PySem.Spec PyProof.Rows L2
section
variable {X : Cx} {K : PySem.W.Frag}
abbrev subD := iiD (fun _ _ => True) fun i j => .int (i - j)
theorem op_subA : OpR X (binaryOp .Sub) (rI (fun _ _ => True) fun i j => .int (i - j)) := OpR.I op_sub
theorem subD_ok : OpD K (rI (fun _ _ => True) fun i j => .int (i - j)) subD := iiD_ok fun _ _ _ => .int _
abbrev mulD := iiD CMul fun i j => .int (i * j)
theorem mulD_ok : OpD K (rI CMul fun i j => .int (i * j)) mulD := iiD_ok fun _ _ _ => .int _
abbrev fdivD := iiD CDiv fun i j => .int (i / j)
theorem fdivD_ok : OpD K (rI CDiv fun i j => .int (i / j)) fdivD := iiD_ok fun _ _ _ => .int _
abbrev modD := iiD (fun _ j => 0 < j) fun i j => .int (i % j)
theorem modD_ok : OpD K (rI (fun _ j => 0 < j) fun i j => .int (i % j)) modD := iiD_ok fun _ _ _ => .int _
abbrev powD := iiD CPow fun i j => .int (i ^ j.toNat)
theorem powD_ok : OpD K (rI CPow fun i j => .int (i ^ j.toNat)) powD := iiD_ok fun _ _ _ => .int _
abbrev ltD := iiD (fun _ _ => True) fun i j => .bool (decide (i < j))
abbrev leD := iiD (fun _ _ => True) fun i j => .bool (decide (i ≤ j))
abbrev gtD := iiD (fun _ _ => True) fun i j => .bool (decide (j < i))
abbrev geD := iiD (fun _ _ => True) fun i j => .bool (decide (j ≤ i))
theorem op_ltA : OpR X (compareOp .Lt) (rI (fun _ _ => True) fun i j => .bl (decide (i < j))) := OpR.I op_lt
theorem op_leA : OpR X (compareOp .LtE) (rI (fun _ _ => True) fun i j => .bl (decide (i ≤ j))) := OpR.I op_le
theorem op_gtA : OpR X (compareOp .Gt) (rI (fun _ _ => True) fun i j => .bl (decide (j < i))) := OpR.I op_gt
theorem op_geA : OpR X (compareOp .GtE) (rI (fun _ _ => True) fun i j => .bl (decide (j ≤ i))) := OpR.I op_ge
theorem ltD_ok : OpD K (rI (fun _ _ => True) fun i j => .bl (decide (i < j))) ltD := iiD_ok fun _ _ _ => .bl _
theorem leD_ok : OpD K (rI (fun _ _ => True) fun i j => .bl (decide (i ≤ j))) leD := iiD_ok fun _ _ _ => .bl _
theorem gtD_ok : OpD K (rI (fun _ _ => True) fun i j => .bl (decide (j < i))) gtD := iiD_ok fun _ _ _ => .bl _
theorem geD_ok : OpD K (rI (fun _ _ => True) fun i j => .bl (decide (j ≤ i))) geD := iiD_ok fun _ _ _ => .bl _
theorem call_lenA : CallR X (.builtin "len") (rLenA X.K) := call_len
theorem call_tupA : CallR X (.type "tuple") (rTupA X.K) := call_tuple_of
theorem call_listA : CallR X (.type "list") (rListA X.K) := call_list_of
theorem call_intA : CallR X (.type "int") rIntA := call_int1
theorem call_minA (hc : X.calm = true) : CallR X (.builtin "min") rMin2 := call_min2 hc
theorem call_maxA (hc : X.calm = true) : CallR X (.builtin "max") rMax2 := call_max2 hc
end

/-! ### the law's draws -/
def spTake : Spec := fun ws P => ∃ k n, ws = [.bag k, .val (.int n)] ∧ 0 < n ∧ n < 1073741824 ∧ ∀ r : Int, 0 ≤ r → r < n → P (.val (.int r))
def spBag : Spec := fun ws P => ∃ ns k, ws = [.scr ns, .val (.int k)] ∧ 0 ≤ k ∧ k < 1000 ∧ ∀ b, P (.bag b)

/-! by hand: the bag's two defs, whatever their place in the text -/
section
variable {P : Program} {w : World} {K : PySem.W.Frag} {mg : Str → Option Value} {base : Heap}
def nTake : List Str := ["_law_bag_here", "_law_count", "_law_found"]
def nBag : List Str := ["_law_script", "_law_k", "_law_cell", "_law_seed"]
def ixL (K : PySem.W.Frag) (i : Nat) (k : Int) : TE := tOp (rIxL K) (tVar i) (tC (.int k))
def tTake (K : PySem.W.Frag) : TS :=
  tSeq (tIfS (tTest (tOp (rI0 fun i j => .bl (decide (j < i))) (ixL K 0 0) (tC (.int 0))))
    (tSeq (tAsg (tOp (rI (fun _ j => 0 < j) fun i j => .int (i % j)) (ixL K 0 0) (tVar 1)) (gName 2))
      (tSeq (tAsg (tOp (rI CDiv fun i j => .int (i / j)) (ixL K 0 0) (tVar 1)) (gSub (tVar 0) (tC (.int 0)) rSetL)) (tRet (tVar 2)))) tNext)
    (tSeq (tAsg (tOp (rI (fun _ j => 0 < j) fun i j => .int (i % j)) (tOp (rI CMul fun i j => .int (i * j)) (ixL K 0 1) (tC (.int 48271))) (tC (.int 2147483647))) (gSub (tVar 0) (tC (.int 1)) rSetL))
      (tRet (tOp (rI (fun _ j => 0 < j) fun i j => .int (i % j)) (tOp (rI CDiv fun i j => .int (i / j)) (tOp (rI (fun _ j => 0 < j) fun i j => .int (i % j))
        (tOp (rI CMul fun i j => .int (i * j)) (tOp (rI CDiv fun i j => .int (i / j)) (ixL K 0 1) (tC (.int 13))) (tOp (rI0 fun i j => .int (i + j)) (tOp (rI (fun _ j => 0 < j) fun i j => .int (i % j)) (ixL K 0 1) (tC (.int 32749))) (tC (.int 17)))) (tC (.int 2147483629))) (tC (.int 32))) (tVar 1))))
theorem bagEnd {H : Hp} {F : Hp} {bs : List Addr} {a : Addr} {x y r : Int} (sF : Same F H) (hb : ∀ a ∈ bs, BagAt H a ∧ F a = none) (ha : a ∈ bs) (hx : 0 ≤ x) (hy : 0 ≤ y) (hy2 : y < 2147483648) :
    Ok K H F bs [] [(V.int r, .val (.int r))] [] { F := F, bs := bs, O := fun _ => none } (upd H a (.lst [.int x, .int y])) := by
  refine ⟨rfl, fun b o e => ?_, fun b o nb e => ?_, Same.refl _, (fun b o e z => by have e : F b = some o := e; rw [e] at z; cases z), ⟨[], by simp⟩, fun b hb' => ⟨?_, (hb b hb').2, rfl, .inl hb'⟩, fun b h e => (nomatch e), fun i w e => by simp at e, .int r, trivial⟩
  · have ne : b ≠ a := by rintro rfl; have := (hb b ha).2; rw [show F b = some o from e] at this; cases this
    rw [upd_ne ne]; exact sF b o e
  · have ne : b ≠ a := by rintro rfl; exact nb ha
    rw [upd_ne ne]; exact e
  · by_cases e : b = a
    · subst e; exact ⟨x, y, upd_same, hx, hy, hy2⟩
    · obtain ⟨x', y', h, q⟩ := (hb b hb').1
      exact ⟨x', y', by rw [upd_ne e]; exact h, q⟩
theorem pure_take (vs : List V) (H : Hp) (Q : VK) (E : XK) (h : spOf K spTake vs H Q E) : tTake K { nx := fun _ H' => Q .non H', rt := Q } (L2.start nTake vs) H := by
  obtain ⟨F, bs, ws, sF, hb, r, P, ⟨k, n, rfl, n0, n1, q⟩, post⟩ := h
  match vs, r with
  | [v1, v2], ⟨⟨a, e1, ea⟩, ⟨r2, _⟩⟩ =>
    subst e1
    cases (show Rp K F v2 (.int n) from r2)
    have ha : a ∈ bs := List.mem_of_getElem? ea
    obtain ⟨⟨x, y, hH, hx, hy, hy2⟩, hF⟩ := hb a ha
    have go : ∀ {x y r : Int}, 0 ≤ x → 0 ≤ y → y < 2147483648 → 0 ≤ r → r < n → Q (.int r) (upd H a (.lst [.int x, .int y])) := fun {x y r} h1 h2 h3 h4 h5 =>
      post _ (q r h4 h5) _ _ _ nb_val (bagEnd sF hb ha h1 h2 h3)
    refine ⟨_, rfl, a, [.int x, .int y], 0, .int x, rfl, rfl, SqL.of hH, rfl, x, 0, rfl, rfl, _, rfl, ?_⟩
    refine ite2 (fun c => ?_) (fun c => ?_)
    · have c : 0 < x := by simpa using c
      refine ⟨_, rfl, a, [.int x, .int y], 0, .int x, rfl, rfl, SqL.of hH, rfl, _, rfl, x, n, rfl, rfl, n0, ?_⟩
      refine ⟨_, rfl, a, [.int x, .int y], 0, .int x, rfl, rfl, SqL.of hH, rfl, _, rfl, x, n, rfl, rfl, ⟨n0, n1⟩, ?_⟩
      refine ⟨_, rfl, a, [.int x, .int y], 0, 0, rfl, rfl, hH, rfl, _, rfl, ?_⟩
      exact go (Int.ediv_nonneg hx (Int.le_of_lt n0)) hy hy2 (Int.emod_nonneg _ (by omega)) (Int.emod_lt_of_pos _ n0)
    · refine ⟨_, rfl, a, [.int x, .int y], 1, .int y, rfl, rfl, SqL.of hH, rfl, y, 48271, rfl, rfl, .inr ⟨by omega, by omega⟩, _, _, rfl, rfl, (by decide : (0 : Int) < 2147483647), ?_⟩
      refine ⟨_, rfl, a, [.int x, .int y], 1, 1, rfl, rfl, hH, rfl, ?_⟩
      have hm : 0 ≤ y * 48271 % 2147483647 := Int.emod_nonneg _ (by decide)
      have hm2 : y * 48271 % 2147483647 < 2147483647 := Int.emod_lt_of_pos _ (by decide)
      have hz : (upd H a (.lst [.int x, .int (y * 48271 % 2147483647)])) a = some (.lst [.int x, .int (y * 48271 % 2147483647)]) := upd_same
      refine ⟨_, rfl, a, [.int x, .int (y * 48271 % 2147483647)], 1, _, rfl, rfl, SqL.of hz, rfl, y * 48271 % 2147483647, 13, rfl, rfl, ⟨by decide, by decide⟩, ?_⟩
      refine ⟨_, rfl, a, [.int x, .int (y * 48271 % 2147483647)], 1, _, rfl, rfl, SqL.of hz, rfl, y * 48271 % 2147483647, 32749, rfl, rfl, (by decide : (0 : Int) < 32749), _, _, rfl, rfl, ?_⟩
      refine ⟨_, _, rfl, rfl, .inl ⟨by omega, by omega⟩, _, _, rfl, rfl, (by decide : (0 : Int) < 2147483629), _, _, rfl, rfl, ⟨by decide, by decide⟩, ?_⟩
      refine ⟨_, rfl, _, n, rfl, rfl, n0, ?_⟩
      exact go hx hm (by omega) (Int.emod_nonneg _ (by omega)) (Int.emod_lt_of_pos _ n0)
  | [], r => exact r.elim
  | [_], r => exact r.2.elim
  | _ :: _ :: _ :: _, r => exact r.2.2.elim
def tBag (K : PySem.W.Frag) : TS :=
  tSeq (tAsg (tC (.int 0)) (gName 2))
  (tSeq (tIfS (tTest (tOp (rI0 fun i j => .bl (decide (i < j))) (tVar 1) (tCB (rLenA K) (tCons (tVar 0) tNil))))
    (tAsg (tOp (rI (fun _ j => 0 < j) fun i j => .int (i % j)) (tOp (rIxL K) (tVar 0) (tVar 1)) (tOp (rI CPow fun i j => .int (i ^ j.toNat)) (tC (.int 10)) (tC (.int 60)))) (gName 2)) tNext)
  (tSeq (tAsg (tOp (rI0 fun i j => .int (i + j)) (tC (.int 1)) (tOp (rI (fun _ j => 0 < j) fun i j => .int (i % j))
      (tOp (rI0 fun i j => .int (i + j)) (tOp (rI0 fun i j => .int (i + j)) (tOp (rI0 fun i j => .int (i + j))
        (tOp (rI CMul fun i j => .int (i * j)) (tOp (rI (fun _ j => 0 < j) fun i j => .int (i % j)) (tVar 2) (tC (.int 2147483629))) (tC (.int 16807)))
        (tOp (rI CMul fun i j => .int (i * j)) (tOp (rI CMul fun i j => .int (i * j)) (tC (.int 40009)) (tVar 1)) (tVar 1)))
        (tOp (rI CMul fun i j => .int (i * j)) (tC (.int 7919)) (tVar 1))) (tC (.int 1009))) (tC (.int 2147483645)))) (gName 3))
  (tSeq (tIfS (tTest (tOp (rI0 fun i j => .bl (decide (i < j))) (tVar 2) (tOp (rI CPow fun i j => .int (i ^ j.toNat)) (tC (.int 10)) (tC (.int 18))))) (tRet (tLst (tCons (tC (.int 0)) (tCons (tVar 3) tNil)))) tNext)
    (tRet (tLst (tCons (tVar 2) (tCons (tVar 3) tNil)))))))
theorem bagNew {H : Hp} {F : Hp} {bs : List Addr} {a : Addr} {x y : Int} (sF : Same F H) (hb : ∀ a ∈ bs, BagAt H a ∧ F a = none) (ha : H a = none) (hx : 0 ≤ x) (hy : 0 ≤ y) (hy2 : y < 2147483648) :
    Ok K H F bs [] [(V.ref a, .bag bs.length)] [] { F := F, bs := bs ++ [a], O := fun _ => none } (upd H a (.lst [.int x, .int y])) := by
  refine ⟨rfl, fun b o e => ?_, fun b o nb e => ?_, Same.refl _, (fun b o e z => by have e : F b = some o := e; rw [e] at z; cases z), ⟨[a], rfl⟩, fun b hb' => ?_, fun b h e => (nomatch e), fun i w e => by simp at e, ⟨a, rfl, by simp⟩, trivial⟩
  · rw [upd_ne (ne_of_none (sF b o e) ha)]; exact sF b o e
  · rw [upd_ne (ne_of_none e ha)]; exact e
  · rcases List.mem_append.mp hb' with h | h
    · obtain ⟨⟨x', y', h1, q⟩, h2⟩ := hb b h
      exact ⟨⟨x', y', by rw [upd_ne (ne_of_none h1 ha)]; exact h1, q⟩, h2, rfl, .inl h⟩
    · have e : b = a := by simpa using h
      subst e
      exact ⟨⟨x, y, upd_same, hx, hy, hy2⟩, sF.free ha, rfl, .inr ha⟩
theorem pure_bag (vs : List V) (H : Hp) (Q : VK) (E : XK) (h : spOf K spBag vs H Q E) : tBag K { nx := fun _ H' => Q .non H', rt := Q } (L2.start nBag vs) H := by
  obtain ⟨F, bs, ws, sF, hb, r, P, ⟨ns, k, rfl, k0, k1, q⟩, post⟩ := h
  match vs, r with
  | [v1, v2], ⟨⟨a, e1, hs⟩, ⟨r2, _⟩⟩ =>
    subst e1
    cases (show Rp K F v2 (.int k) from r2)
    have hS : SqL K H a (ns.map V.int) := sF.seq hs
    have fin : ∀ c : Int, 0 ≤ c → (tSeq (tAsg (tOp (rI0 fun i j => .int (i + j)) (tC (.int 1)) (tOp (rI (fun _ j => 0 < j) fun i j => .int (i % j))
      (tOp (rI0 fun i j => .int (i + j)) (tOp (rI0 fun i j => .int (i + j)) (tOp (rI0 fun i j => .int (i + j))
        (tOp (rI CMul fun i j => .int (i * j)) (tOp (rI (fun _ j => 0 < j) fun i j => .int (i % j)) (tVar 2) (tC (.int 2147483629))) (tC (.int 16807)))
        (tOp (rI CMul fun i j => .int (i * j)) (tOp (rI CMul fun i j => .int (i * j)) (tC (.int 40009)) (tVar 1)) (tVar 1)))
        (tOp (rI CMul fun i j => .int (i * j)) (tC (.int 7919)) (tVar 1))) (tC (.int 1009))) (tC (.int 2147483645)))) (gName 3))
      (tSeq (tIfS (tTest (tOp (rI0 fun i j => .bl (decide (i < j))) (tVar 2) (tOp (rI CPow fun i j => .int (i ^ j.toNat)) (tC (.int 10)) (tC (.int 18))))) (tRet (tLst (tCons (tC (.int 0)) (tCons (tVar 3) tNil)))) tNext)
        (tRet (tLst (tCons (tVar 2) (tCons (tVar 3) tNil)))))) { nx := fun _ H' => Q .non H', rt := Q } [some (.ref a), some (.int k), some (.int c), none] H := fun c hc => by
      have hm : 0 ≤ c % 2147483629 := Int.emod_nonneg _ (by decide)
      have hm2 : c % 2147483629 < 2147483629 := Int.emod_lt_of_pos _ (by decide)
      refine ⟨_, rfl, c, 2147483629, rfl, rfl, (by decide : (0 : Int) < 2147483629), _, _, rfl, rfl, .inl ⟨by omega, by omega⟩, ?_⟩
      refine ⟨_, rfl, _, _, rfl, rfl, .inl ⟨by decide, by decide⟩, _, rfl, _, _, rfl, rfl, .inr ⟨by omega, by omega⟩, _, _, rfl, rfl, ?_⟩
      refine ⟨_, rfl, _, _, rfl, rfl, .inl ⟨by decide, by decide⟩, _, _, rfl, rfl, _, _, rfl, rfl, _, _, rfl, rfl, (by decide : (0 : Int) < 2147483645), _, _, rfl, rfl, ?_⟩
      have h1 : 0 ≤ (c % 2147483629 * 16807 + 40009 * k * k + 7919 * k + 1009) % 2147483645 := Int.emod_nonneg _ (by decide)
      have h2 : (c % 2147483629 * 16807 + 40009 * k * k + 7919 * k + 1009) % 2147483645 < 2147483645 := Int.emod_lt_of_pos _ (by decide)
      have hz1 : 0 ≤ 1 + (c % 2147483629 * 16807 + 40009 * k * k + 7919 * k + 1009) % 2147483645 := Int.add_nonneg (by decide) h1
      have hz2 : 1 + (c % 2147483629 * 16807 + 40009 * k * k + 7919 * k + 1009) % 2147483645 < 2147483648 := Int.lt_of_le_of_lt (Int.add_le_add_left (Int.le_of_lt h2) 1) (by decide)
      refine ⟨_, rfl, 10, 18, rfl, rfl, ⟨by decide, by decide, by decide⟩, _, _, rfl, rfl, _, rfl, ?_⟩
      refine ite2 (fun c' => ?_) (fun c' => ?_)
      · exact ⟨_, rfl, by show 2 ≤ sizeLine; decide, fun p hp => post _ (q _) _ _ _ nb_bag (bagNew sF hb hp (by decide) hz1 hz2)⟩
      · exact ⟨_, rfl, _, rfl, by show 2 ≤ sizeLine; decide, fun p hp => post _ (q _) _ _ _ nb_bag (bagNew sF hb hp hc hz1 hz2)⟩
    refine ⟨_, rfl, _, rfl, _, ns.length, rfl, .inl ⟨_, hS, by rw [List.length_map]⟩, _, _, rfl, rfl, _, rfl, ?_⟩
    refine ite2 (fun c => ?_) (fun c => ?_)
    · have c : k < (ns.length : Int) := by simpa using c
      have hk : k.toNat < ns.length := by omega
      refine ⟨_, rfl, _, rfl, a, ns.map V.int, k, .int ns[k.toNat], rfl, rfl, hS, ?_, 10, 60, rfl, rfl, ⟨by decide, by decide, by decide⟩, _, _, rfl, rfl, (show (0 : Int) < 10 ^ Int.toNat 60 by decide), ?_⟩
      · refine at_of (j := k.toNat) (by omega) ?_
        simp [hk]
      · exact fin _ (Int.emod_nonneg _ (show (10 : Int) ^ Int.toNat 60 ≠ 0 by decide))
    · exact fin 0 (by decide)
  | [], r => exact r.elim
  | [_], r => exact r.2.elim
  | _ :: _ :: _ :: _, r => exact r.2.2.elim
end

/-! ### small facts for reckoning -/
theorem kt_ii : kitB "int" "int" = some true := by decide +kernel
theorem kt_bi : kitB "bool" "int" = some true := by decide +kernel
theorem kt_ib : kitB "int" "bool" = some false := by decide +kernel
theorem kt_bb : kitB "bool" "bool" = some true := by decide +kernel
theorem kt_si : kitB "str" "int" = some false := by decide +kernel
theorem kt_sb : kitB "str" "bool" = some false := by decide +kernel
theorem kt_ni : kitB "NoneType" "int" = some false := by decide +kernel
theorem kt_nb : kitB "NoneType" "bool" = some false := by decide +kernel
theorem kt_li : kitB "list" "int" = some false := by decide +kernel
theorem kt_lb : kitB "list" "bool" = some false := by decide +kernel
theorem kt_ti : kitB "tuple" "int" = some false := by decide +kernel
theorem kt_tb : kitB "tuple" "bool" = some false := by decide +kernel
theorem kt_nt : kitB "NoneType" "tuple" = some false := by decide +kernel
theorem kt_bt : kitB "bool" "tuple" = some false := by decide +kernel
theorem kt_it : kitB "int" "tuple" = some false := by decide +kernel
theorem kt_st : kitB "str" "tuple" = some false := by decide +kernel
theorem kt_lt : kitB "list" "tuple" = some false := by decide +kernel
theorem kt_tt : kitB "tuple" "tuple" = some true := by decide +kernel
theorem kt_ns : kitB "NoneType" "str" = some false := by decide +kernel
theorem kt_bs : kitB "bool" "str" = some false := by decide +kernel
theorem kt_is : kitB "int" "str" = some false := by decide +kernel
theorem kt_ss : kitB "str" "str" = some true := by decide +kernel
theorem kt_ls : kitB "list" "str" = some false := by decide +kernel
theorem kt_ts : kitB "tuple" "str" = some false := by decide +kernel
theorem kt_nl : kitB "NoneType" "list" = some false := by decide +kernel
theorem kt_bl : kitB "bool" "list" = some false := by decide +kernel
theorem kt_il : kitB "int" "list" = some false := by decide +kernel
theorem kt_sl : kitB "str" "list" = some false := by decide +kernel
theorem kt_ll : kitB "list" "list" = some true := by decide +kernel
theorem kt_tl : kitB "tuple" "list" = some false := by decide +kernel
theorem eqv_ii {i j : Int} : PyData.eqv (.int i) (.int j) = decide (i = j) := by rw [PyData.eqv, Bool.beq_eq_decide_eq]
theorem eqv_bb {i j : Bool} : PyData.eqv (.bool i) (.bool j) = (i == j) := by rw [PyData.eqv]
theorem eqv_ss {i j : Str} : PyData.eqv (.str i) (.str j) = decide (i = j) := by rw [PyData.eqv, Bool.beq_eq_decide_eq]
theorem shp_none : shp .none := rfl
theorem shp_bool {b : Bool} : shp (.bool b) := rfl
theorem shp_int {b : Int} : shp (.int b) := rfl
theorem shp_nil : shp (.list []) := rfl
theorem le2 : 2 ≤ sizeLine := by decide
theorem sz_small {n : Nat} (h : n ≤ 1000) : n ≤ sizeLine := Nat.le_trans h (by decide)
theorem cmul_l {i j : Int} (h : -(2 ^ 64) < i ∧ i < 2 ^ 64) : CMul i j := .inl h
theorem cmul_r {i j : Int} (h : -(2 ^ 64) < j ∧ j < 2 ^ 64) : CMul i j := .inr h
theorem rngL_cons {lo : Int} {n : Nat} : rngL lo (n + 1) = .int lo :: rngL (lo + 1) n := by
  unfold rngL
  rw [List.range_succ_eq_map, List.map_cons, List.map_map]
  congr 1
  · simp
  · apply List.map_congr_left
    intro a _
    show PyData.int (lo + ((a + 1 : Nat) : Int)) = PyData.int (lo + 1 + a)
    congr 1
    omega
theorem rngL_nil {lo : Int} : rngL lo 0 = [] := rfl
/-- a module's constants -/
def ConstV (v : Value) (d : PD) : Prop := ∃ x : V, RelV x v ∧ ∀ (K : PySem.W.Frag) F, Rp K F x d
def ConstT (its : Array Value) (d : PD) : Prop := ∃ (vs : List V) (ds : List PD), d = .tuple ds ∧ Vals vs its.toList ∧ its.size ≤ sizeLine ∧ ∀ (K : PySem.W.Frag) F, RpA K F vs ds
theorem kst_val {K : PySem.W.Frag} {mg : Str → Option Value} {x : Str} {v : Value} {d : PD} (h : mg x = some v) (c : ConstV v d) : Kst K mg x d := by
  obtain ⟨y, r, q⟩ := c
  exact ⟨y, v, h, r, q K⟩
theorem kst_tup {K : PySem.W.Frag} {mg : Str → Option Value} {x : Str} {a : Addr} {dd : Option Addr} {its : Array Value} {n : Nat} {sl : Array (Option Value)} {d : PD} (h : mg x = some (.ref a)) (l : K.lookup a = some ⟨.type "tuple", dd, .seq its n, sl⟩) (c : ConstT its d) : Kst K mg x d := by
  obtain ⟨vs, ds, rfl, r, hz, q⟩ := c
  exact ⟨.ref a, .ref a, h, rfl, fun F => .tup (.inr ⟨_, its, n, l, rfl, rfl, hz, r⟩) (q K F)⟩
theorem Fact.fn {P : Program} {w : World} {K : PySem.W.Frag} {mg : Str → Option Value} {base : Heap} {k ar : Nat} {x : Str} {sp : Spec} {f : Addr} {fd : FuncData} (F : Fact P w K mg base k x ar sp) (hm : mg x = some (.ref f)) : ∃ fd ps, FnOk P w K mg base CX0 k f fd ps (spOf K sp) := by
  obtain ⟨f', fd', ps, _, _, _, hm', _, _, h⟩ := F.ex
  rw [hm] at hm'
  cases hm'
  exact ⟨fd', ps, h⟩
/-- the law's start -/
theorem law_starts {K : PySem.W.Frag} {H : Hp} {a : Addr} {ns : List Int} {sp : Spec} {E : XK} (hS : SqL K H a (ns.map V.int)) (h : ∀ P : W → Prop, P (.val (.bool true)) → sp [.scr ns] P) : spOf K sp [.ref a] H (fun v _ => v = .bl true) E :=
  ⟨H, [], [.scr ns], Same.refl _, (fun _ h => by cases h), ⟨⟨a, rfl, hS⟩, trivial⟩, fun w => w = .val (.bool true), h _ rfl, fun w hw v G' H' _ x => by subst hw; exact x.bool1⟩
/-! ### shapes -/
def shpN (n : Nat) (d : PD) : Prop := d.canLay0 = true ∧ d.depth ≤ n
theorem shpN.shp {n : Nat} {d : PD} (h : shpN n d) (hn : n ≤ 64) : shp d := by
  show (d.canLay0 && decide (d.depth ≤ 64)) = true
  rw [h.1, decide_eq_true (Nat.le_trans h.2 hn)]
  rfl
theorem shpN.mono {n m : Nat} {d : PD} (h : shpN n d) (hn : n ≤ m) : shpN m d := ⟨h.1, Nat.le_trans h.2 hn⟩
theorem shpN_int {i : Int} : shpN 0 (.int i) := ⟨rfl, Nat.le_refl _⟩
theorem shpN_bool {i : Bool} : shpN 0 (.bool i) := ⟨rfl, Nat.le_refl _⟩
theorem shpN_none : shpN 0 .none := ⟨rfl, Nat.le_refl _⟩
theorem shpN_str {x : Str} (h : PyData.strOk x = true) : shpN 0 (.str x) := ⟨h, Nat.le_refl _⟩
theorem shpA {n : Nat} : ∀ {ds : List PD}, (∀ d ∈ ds, shpN n d) → PyData.canLayAll0 ds = true ∧ PyData.depthAll ds ≤ n
  | [], _ => ⟨rfl, Nat.zero_le _⟩
  | d :: ds, h => by
    obtain ⟨h1, h2⟩ := h d List.mem_cons_self
    obtain ⟨h3, h4⟩ := shpA fun e he => h e (List.mem_cons_of_mem _ he)
    refine ⟨?_, ?_⟩
    · show (d.canLay0 && PyData.canLayAll0 ds) = true
      rw [h1, h3]; rfl
    · show max d.depth (PyData.depthAll ds) ≤ n
      omega
theorem shpN_list {n : Nat} {ds : List PD} (h : ∀ d ∈ ds, shpN n d) : shpN (n + 1) (.list ds) := ⟨(shpA h).1, Nat.succ_le_succ (shpA h).2⟩
theorem shpN_tuple {n : Nat} {ds : List PD} (h : ∀ d ∈ ds, shpN n d) : shpN (n + 1) (.tuple ds) := ⟨(shpA h).1, Nat.succ_le_succ (shpA h).2⟩
theorem atI_nat' {α : Type} {xs : List α} {i : Int} {d : α} (h0 : 0 ≤ i) (h : xs[i.toNat]? = some d) : L2.atI xs i = some d := by
  unfold L2.atI L2.ixN
  have hl := (List.getElem?_eq_some_iff.mp h).1
  rw [if_pos h0, if_pos (by omega)]
  exact h
end Pw
/-! Pw8: more built-ins. -/
namespace Pw
open PySem PySem.Spec PyProof.Rows L2
section
variable {X : Cx} {e a b : Expr} {φa φb : Phi} {pos : Pos}
theorem rgV_rp {K : PySem.W.Frag} {F : Hp} (i j : Int) : RpA K F (rgV i j) (rngL i (j - i).toNat) := by
  unfold rgV rngL
  generalize List.range (j - i).toNat = l
  induction l with
  | nil => exact .nil
  | cons x l ih => exact .cons (.int _) ih
def pListRg2 (φa φb : Phi) : Phi := fun env Q => φa env fun w1 e1 => φb e1 fun w2 e => match w1, w2 with
  | .val (.int i), .val (.int j) => (-(2 ^ 62) ≤ i ∧ i < 2 ^ 62 ∧ -(2 ^ 62) ≤ j ∧ j < 2 ^ 62 ∧ (j - i).toNat ≤ 2 ^ 24) ∧ Q (.own (rngL i (j - i).toNat)) e
  | _, _ => False
theorem re_listRg2 {p p2 pos2 : Pos} (hx : X.calm = true) (ha : RB X a φa) (hb : RB X b φb) (hm : X.mg "range" = none) (hm2 : X.mg "list" = none) (hg : Gl X "range" := by rfl) (hg2 : Gl X "list" := by rfl) (na : starEach [a, b] X.env = (false, eval a X.env) :: starEach [b] X.env := by exact star_of rfl)
    (nb : starEach [b] X.env = (false, eval b X.env) :: starEach [] X.env := by exact star_of rfl) (hp : (backTo pos2 (starEach [b] X.env)).any (·.1) = false := by exact plain_of rfl) (nc : starEach [.Call (.Name "range" p2) [a, b] [] pos2] X.env = (false, eval (.Call (.Name "range" p2) [a, b] [] pos2) X.env) :: starEach [] X.env := by exact star_of rfl) :
    RE X (.Call (.Name "list" p) [.Call (.Name "range" p2) [a, b] [] pos2] [] pos) (pListRg2 φa φb) := .mk fun env Q q H0 F0 bs0 ts σ G H Q' x post => by
  refine PE.wk (pe_listRg hx hg2 hm2 (prg_2 hg hm wkE_ok wkE_ok na nb hp) nc) ?_
  refine ha _ _ q _ _ _ _ _ _ _ _ x fun v1 w1 env1 G1 H1 q1 x1 => ?_
  refine hb _ _ q1 _ _ _ _ _ _ _ _ x1 fun v2 w2 env2 G2 H2 q2 x2 => ?_
  split at q2
  · rename_i i j
    exact ⟨i, j, x2.int2, x2.int1, q2.1, fun c hc => post _ _ _ _ _ ⟨nb_own, q2.2⟩ (x2.pop.pop.newL hc (rgV_rp i j))⟩
  · exact q2.elim
end
end Pw
/-! Pw9: defs with defaults, called with fewer arguments or by keywords; nested constants. -/
namespace Pw
open PySem PySem.Spec PyProof.Rows L2
/-- a value that stands in K -/
structure KV (K : PySem.W.Frag) (u : Value) (d : PD) : Prop where
  ex : ∃ v : V, RelV v u ∧ ∀ F, Rp K F v d
inductive KVs (K : PySem.W.Frag) : List Value → List PD → Prop
  | nil : KVs K [] []
  | cons {u : Value} {d : PD} {us : List Value} {ds : List PD} : KV K u d → KVs K us ds → KVs K (u :: us) (d :: ds)
theorem kv_flat {K : PySem.W.Frag} {u : Value} {d : PD} (c : ConstV u d) : KV K u d := by
  obtain ⟨x, r, q⟩ := c
  exact ⟨x, r, q K⟩
theorem KVs.vals {K : PySem.W.Frag} : ∀ {us : List Value} {ds : List PD}, KVs K us ds → ∃ vs, Vals vs us ∧ ∀ F, RpA K F vs ds
  | _, _, .nil => ⟨[], .nil, fun _ => .nil⟩
  | _, _, .cons h r => by
    obtain ⟨v, e, q⟩ := h.ex
    obtain ⟨vs, e2, q2⟩ := r.vals
    exact ⟨v :: vs, .cons e e2, fun F => .cons (q F) (q2 F)⟩
theorem kv_tup {K : PySem.W.Frag} {a : Addr} {dd : Option Addr} {its : Array Value} {n : Nat} {sl : Array (Option Value)} {ds : List PD} (l : K.lookup a = some ⟨.type "tuple", dd, .seq its n, sl⟩) (hz : its.size ≤ sizeLine) (c : KVs K its.toList ds) : KV K (.ref a) (.tuple ds) := by
  obtain ⟨vs, r, q⟩ := c.vals
  exact ⟨.ref a, rfl, fun F => .tup (.inr ⟨_, its, n, l, rfl, rfl, hz, r⟩) (q F)⟩
theorem kst_kv {K : PySem.W.Frag} {mg : Str → Option Value} {x : Str} {u : Value} {d : PD} (h : mg x = some u) (c : KV K u d) : Kst K mg x d := by
  obtain ⟨v, r, q⟩ := c.ex
  exact ⟨v, u, h, r, q⟩
/-- a def with defaults -/
structure FunZ (K : PySem.W.Frag) (x qual : Str) (st : Stmt) (dws : List PD) (f : Addr) (fd : FuncData) : Prop where
  ex : ∃ dvs, FunD K x qual (defArgs st) (defBody st) (defScope st) dvs [] f fd ∧ dvs ≠ [] ∧ dvs.length = dws.length ∧ ∀ F, RpA K F dvs dws
theorem funz_mk {K : PySem.W.Frag} {x qual : Str} {st : Stmt} {f T : Addr} {oc : Value} {od an : Option Addr} {osl : Array (Option Value)} {kV doc pm cdv ct : Value} {dws : List PD} {dd : Option Addr} {its : Array Value} {n : Nat} {sl : Array (Option Value)}
    (l : K.lookup f = some ⟨oc, od, .func (PySem.W.fnOf x qual (defArgs st) (defBody st) (defScope st) (.ref T) kV doc pm an cdv ct), osl⟩)
    (c : PySem.W.codeIn K cdv qual = true) (k : PySem.W.keepIn K (.ref f) = true) (lT : K.lookup T = some ⟨.type "tuple", dd, .seq its n, sl⟩) (h : KVs K its.toList dws) (hn : dws ≠ []) :
    FunZ K x qual st dws f (PySem.W.fnOf x qual (defArgs st) (defBody st) (defScope st) (.ref T) kV doc pm an cdv ct) := by
  obtain ⟨dvs, r, q⟩ := h.vals
  have hl := (q fun _ => none).len
  have hne : dvs ≠ [] := fun z => hn (List.length_eq_zero_iff.mp (by rw [← hl, z]; rfl))
  exact ⟨dvs, ⟨⟨oc, od, .ref T, kV, doc, pm, an, cdv, ct, osl, rfl, l, c, .inr ⟨hne, T, _, its.toList, n, rfl, lT, rfl, r⟩, .inl rfl⟩, k⟩, hne, hl, q⟩
section
variable {P : Program} {w : World} {K : PySem.W.Frag} {mg : Str → Option Value} {base : Heap}
/-- the rule for a def with defaults -/
theorem fn_okZ {x qual : Str} {st : Stmt} {dws : List PD} {f : Addr} {fd : FuncData} {N ps : List Str} {k : Nat} {sp : Spec} (F : FunZ K x qual st dws f fd) (S : FnScope N ps (defScope st)) (len : ∀ ws P, sp ws P → ws.length = ps.length)
    (body : ∀ (cdv : Value) (A : Around) (outer : List PySem.Env) (s : Shared) (H : Hp) (E : XK), Room k (cx0 P w K mg base N qual (defScope st) f cdv A outer s H E).A → ∃ χ, RSs (cx0 P w K mg base N qual (defScope st) f cdv A outer s H E) (defBody st) χ ∧ ∀ ws P, sp ws P → χ (env0 N.length ws) (DE.ret P)) :
    FnOk P w K mg base CX0 (k + 1) f fd ps (spOf K sp) := by
  obtain ⟨dvs, F, _, _, _⟩ := F.ex
  refine F.ok S (fun vs H Q E h => ?_) (fun cdv A outer s H vs Q E hr h => ?_)
  · obtain ⟨F, bs, ws, _, _, r, P, q, _⟩ := h
    rw [r.len]; exact len _ _ q
  · obtain ⟨F, bs, ws, sF, hb, r, P, q, post⟩ := h
    obtain ⟨χ, h1, h2⟩ := body cdv A outer s H E hr
    refine ⟨_, PSs.nox wkSs_ok, h1 _ _ (h2 ws P q) H F bs (L2.start N vs) { F := F, bs := bs, O := fun _ => none } H _ ?_ ⟨?_, ?_, ?_, ?_⟩⟩
    · refine ⟨?_, sF, fun a o _ e => e, Same.refl _, (fun a o e z => by have e : F a = some o := e; rw [e] at z; cases z), ⟨[], by simp⟩, fun a ha => ⟨(hb a ha).1, (hb a ha).2, rfl, .inl ha⟩, fun a h e => (nomatch e), fun i w e => ?_, trivial⟩
      · unfold env0 L2.start
        rw [List.length_append, List.length_append, List.length_map, List.length_map, List.length_replicate, List.length_replicate, r.len]
      · obtain ⟨n, v, e1, e2⟩ := slots_start (G := { F := F, bs := bs, O := fun _ => none }) (H0 := H) (H := H) (m := N.length - vs.length) r i w e
        exact ⟨n, v, e1, e2 _⟩
    · intro e σ G H' n y
      obtain ⟨G', z⟩ := (y.pushV (v := V.non) .non).pop.move (i := 0) (v := V.non) (w := .val .none) nb_val .non
      exact post _ n _ _ _ nb_val z
    · intro v u e σ G H' n d y
      refine post _ d v G H' n ⟨rfl, y.sub, y.ext, y.f0, y.fnew, y.bpre, y.bok, y.ow, fun i w h => by simp at h, y.temps⟩
    · intro e σ G H' n y
      exact n.elim
    · intro e σ G H' n y
      exact n.elim
end
/-- what is known of a call with n written arguments, dws behind them -/
structure FactD (P : Program) (w : World) (K : PySem.W.Frag) (mg : Str → Option Value) (base : Heap) (k : Nat) (x : Str) (dws : List PD) (sp : Spec) : Prop where
  ex : ∃ (f : Addr) (fd : FuncData) (ps : List Str) (ds : List Value) (dvs : List V), mg x = some (.ref f) ∧ PySem.W.keepIn K (.ref f) = true ∧ Binds K fd ps ds ∧ Vals dvs ds ∧ (∀ F, RpA K F dvs dws) ∧ FnOk P w K mg base CX0 k f fd ps (spOf K sp)
/-- of a call with n written arguments and the keywords ks, in the parameters' order -/
structure FactK (P : Program) (w : World) (K : PySem.W.Frag) (mg : Str → Option Value) (base : Heap) (k : Nat) (x : Str) (n : Nat) (ks : List Str) (sp : Spec) : Prop where
  ex : ∃ (f : Addr) (fd : FuncData) (ps : List Str), mg x = some (.ref f) ∧ PySem.W.keepIn K (.ref f) = true ∧ KBn K fd ps n ks (fun us ws => us ++ ws) (fun us ws => us ++ ws) ∧ FnOk P w K mg base CX0 k f fd ps (spOf K sp)
section
variable {P : Program} {w : World} {K : PySem.W.Frag} {mg : Str → Option Value} {base : Heap} {x : Str} {sp : Spec} {j k n : Nat} {dws : List PD} {ks : List Str}
theorem FactD.mono (F : FactD P w K mg base j x dws sp) (h : j ≤ k) : FactD P w K mg base k x dws sp := by
  obtain ⟨f, fd, ps, ds, dvs, b, c, d, e, g, z⟩ := F.ex
  exact ⟨f, fd, ps, ds, dvs, b, c, d, e, g, z.mono h⟩
theorem FactK.mono (F : FactK P w K mg base j x n ks sp) (h : j ≤ k) : FactK P w K mg base k x n ks sp := by
  obtain ⟨f, fd, ps, b, c, d, z⟩ := F.ex
  exact ⟨f, fd, ps, b, c, d, z.mono h⟩
variable {qual : Str} {st : Stmt} {f : Addr} {fd : FuncData} {ps : List Str}
theorem factD (F : FunZ K x qual st dws f fd) (hm : mg x = some (.ref f)) (h : FnOk P w K mg base CX0 k f fd ps (spOf K sp)) (n j : Nat) (hn : n + (dws.length - j) = ps.length)
    (hb : ∀ (T : Addr) (kV doc pm : Value) (an : Option Addr) (cdv ct : Value) (us its : List Value), us.length = n → its.length = dws.length →
      ∃ k, bindArgs (PySem.W.fnOf x qual (defArgs st) (defBody st) (defScope st) (.ref T) kV doc pm an cdv ct) ⟨us, []⟩ = seqItems? (.ref T) >>= k ∧ k (some its.toArray) = pure (ps.zip (us ++ its.drop j))) : FactD P w K mg base k x (dws.drop j) sp := by
  obtain ⟨dvs, F, hd, hl, q⟩ := F.ex
  obtain ⟨ds, r, b⟩ := F.binds1 (ps := ps) n j hd (by rw [hl]; exact hn) (by rw [hl]; exact hb)
  exact ⟨f, fd, ps, ds, _, hm, F.kp, b, r, fun G => (q G).drop j, h⟩
theorem factZ (F : FunZ K x qual st dws f fd) (hm : mg x = some (.ref f)) (h : FnOk P w K mg base CX0 k f fd ps (spOf K sp)) (n : Nat) (hn : n = ps.length)
    (hb : ∀ (T : Addr) (kV doc pm : Value) (an : Option Addr) (cdv ct : Value) (us its : List Value), us.length = n → its.length = dws.length →
      ∃ k, bindArgs (PySem.W.fnOf x qual (defArgs st) (defBody st) (defScope st) (.ref T) kV doc pm an cdv ct) ⟨us, []⟩ = seqItems? (.ref T) >>= k ∧ k (some its.toArray) = pure (ps.zip (us ++ its.drop dws.length))) : Fact P w K mg base k x n sp := by
  obtain ⟨dvs, F, hd, hl, q⟩ := F.ex
  obtain ⟨ds, r, b⟩ := F.binds1 (ps := ps) n dvs.length hd (by rw [Nat.sub_self]; exact hn) (by rw [hl]; exact hb)
  have e : ds = [] := by
    have := r.length
    rw [List.drop_length] at this
    exact List.length_eq_zero_iff.mp this.symm
  subst e
  exact ⟨f, fd, ps, [], [], hn.symm, hm, F.kp, b, h⟩
theorem factK (F : FunZ K x qual st dws f fd) (hm : mg x = some (.ref f)) (h : FnOk P w K mg base CX0 k f fd ps (spOf K sp)) (n : Nat) (ks : List Str)
    (hb : ∀ (T : Addr) (kV doc pm : Value) (an : Option Addr) (cdv ct : Value) (us its ws : List Value), us.length = n → its.length = dws.length → ws.length = ks.length →
      ∃ k, bindArgs (PySem.W.fnOf x qual (defArgs st) (defBody st) (defScope st) (.ref T) kV doc pm an cdv ct) ⟨us, ks.zip ws⟩ = seqItems? (.ref T) >>= k ∧ k (some its.toArray) = pure (ps.zip (us ++ ws))) : FactK P w K mg base k x n ks sp := by
  obtain ⟨dvs, F, hd, hl, q⟩ := F.ex
  obtain ⟨its, b⟩ := F.kbindsD (ps := ps) n ks (fun us _ ws => us ++ ws) hd (fun r1 _ r2 => r1.append r2) (by rw [hl]; exact hb)
  exact ⟨f, fd, ps, hm, F.kp, b, h⟩
end
theorem PRs.append {K : PySem.W.Frag} {F : Hp} {bs : List Addr} : ∀ {vs us : List V} {ws zs : List W}, PRs K F bs vs ws → PRs K F bs us zs → PRs K F bs (vs ++ us) (ws ++ zs)
  | [], _, [], _, _, h => h
  | _ :: _, _, _ :: _, _, h, h' => ⟨h.1, h.2.append h'⟩
theorem prs_val {K : PySem.W.Frag} {F : Hp} {bs : List Addr} : ∀ {vs : List V} {ds : List PD}, RpA K F vs ds → PRs K F bs vs (ds.map .val)
  | _, _, .nil => trivial
  | _, _, .cons h r => ⟨h, prs_val r⟩
theorem zipR_app : ∀ {vs us : List V} {ws zs : List W} {ts : List (V × W)}, vs.length = ws.length → zipR (vs ++ us) (ws ++ zs) ts = zipR us zs (zipR vs ws ts)
  | [], _, [], _, _, _ => rfl
  | v :: vs, us, w :: ws, zs, ts, h => by
    show zipR (vs ++ us) (ws ++ zs) ((v, w) :: ts) = _
    rw [zipR_app (by simpa using h)]
    rfl
/-- the keywords' values -/
def kwT (X : Cx) : List Keyword → TA
  | [] => tNil
  | k :: r => tCons (wkE X k.value) (kwT X r)
theorem kwT_ok {X : Cx} : ∀ {ks : List Keyword}, PK X ks (kwT X ks)
  | [] => pk_nil
  | ⟨_, _, _⟩ :: r => pk_cons wkE_ok kwT_ok
structure RK (X : Cx) (ks : List Keyword) (φ : PhiA) : Prop where
  go : ∀ env Q, φ env Q → ∀ H0 F0 bs0 ts σ G H Q', Ok X.K H0 F0 bs0 env ts σ G H → (∀ vs ws env' G' H', vs.length = ws.length → Q ws env' → Ok X.K H0 F0 bs0 env' (zipR vs ws ts) σ G' H' → Q' vs H') → kwT X ks σ H Q'
section
variable {X : Cx} {e : Expr} {es : List Expr} {φ : Phi} {φs φk : PhiA} {pos : Pos} {nm : Option Str} {kpos : Pos} {kws : List Keyword}
theorem rk_nil : RK X [] pNil := .mk fun env Q q H0 F0 bs0 ts σ G H Q' y post => post [] [] env G H rfl q y
theorem rk_cons (h : RE X e φ) (hs : RK X kws φk) : RK X (⟨nm, e, kpos⟩ :: kws) (pCons φ φk) := .mk fun env Q q H0 F0 bs0 ts σ G H Q' y post => by
  refine h _ _ q _ _ _ _ _ _ _ _ y fun v w env1 G1 H1 q1 y1 => ?_
  obtain ⟨G3, y3⟩ := y1.fzTop
  exact hs.go _ _ q1.2 _ _ _ _ _ _ _ _ y3 fun vs ws env2 G2 H2 hl q2 y2 => post (v :: vs) (w.fz :: ws) env2 G2 H2 (by simp [hl]) q2 y2
def pCallD (sp : Spec) (dws : List PD) (φs : PhiA) : Phi := fun env Q => φs env fun ws e => (∀ w ∈ ws, permW w) ∧ Spc sp (ws ++ dws.map .val) fun w => Q w e
def pCallK (sp : Spec) (n m : Nat) (φs φk : PhiA) : Phi := fun env Q => φs env fun ws e => φk e fun zs e2 => ws.length = n ∧ zs.length = m ∧ (∀ w ∈ ws, permW w) ∧ (∀ w ∈ zs, permW w) ∧ Spc sp (ws ++ zs) fun w => Q w e2
theorem re_callD {x : Str} {k : Nat} {sp : Spec} {dws : List PD} {p : Pos} (F : FactD X.prog X.w X.K X.mg X.base k x dws sp) (hr : Room k X.A) (hs : RA X (e :: es) φs) (hg : Gl X x := by rfl) (hdb : (x == ("__debug__" : Str)) = false := by decide)
    (he : starEach (e :: es) X.env = (false, eval e X.env) :: starEach es X.env := by exact star_of rfl) (hpl : (backTo pos (starEach es X.env)).any (·.1) = false := by exact plain_of rfl) :
    RE X (.Call (.Name x p) (e :: es) [] pos) (pCallD sp dws φs) := .mk fun env Q q H0 F0 bs0 ts σ G H Q' y post => by
  obtain ⟨f, fd, ps, ds, dvs, hm, hk, hb, hd, hR, F⟩ := F.ex
  refine PE.wk (pe_call F hr hg hm hk hb hd pass0 wkA_ok hdb he hpl) ?_
  refine hs _ _ q _ _ _ _ _ _ _ _ y fun vs ws env2 G2 H2 hl ⟨hp, q⟩ y2 => ?_
  refine ⟨G2.F, G2.bs, ws ++ dws.map W.val, y2.sub, fun a ha => ⟨(y2.bok a ha).1, (y2.bok a ha).2.1⟩, (temps_zipR hl hp y2.temps).1.append (prs_val (hR _)), (fun w => Q w env2), q, fun w hw v G3 H3 hn y3 => ?_⟩
  obtain ⟨G4, y4⟩ := (y2.dropA hl).behind hn y3
  exact post v w env2 G4 H3 ⟨hn, hw⟩ y4
theorem re_callK {x : Str} {k n : Nat} {ks : List Str} {sp : Spec} {p : Pos} (F : FactK X.prog X.w X.K X.mg X.base k x n ks sp) (hr : Room k X.A) (hs : RA X (e :: es) φs) (hk2 : RK X kws φk) (hall : (backToKw pos (keywordEach kws X.env)).all (·.1.isSome) = true := by rfl) (hks : (backToKw pos (keywordEach kws X.env)).filterMap (·.1) = ks := by rfl) (hg : Gl X x := by rfl) (hdb : (x == ("__debug__" : Str)) = false := by decide)
    (he : starEach (e :: es) X.env = (false, eval e X.env) :: starEach es X.env := by exact star_of rfl) (hpl : ((backTo pos (starEach (e :: es) X.env)).any (·.1) || (backToKw pos (keywordEach kws X.env)).any (·.1.isNone)) = false := by rfl) :
    RE X (.Call (.Name x p) (e :: es) kws pos) (pCallK sp n ks.length φs φk) := .mk fun env Q q H0 F0 bs0 ts σ G H Q' y post => by
  obtain ⟨f, fd, ps, hm, hk, hb, F⟩ := F.ex
  refine PE.wk (pe_callN F hr hg hm hk hb pass0 wkA_ok kwT_ok hall hks hdb he hpl) ?_
  refine hs _ _ q _ _ _ _ _ _ _ _ y fun vs ws env1 G1 H1 hl1 q1 y1 => ?_
  refine hk2.go _ _ q1 _ _ _ _ _ _ _ _ y1 fun us zs env2 G2 H2 hl2 q2 y2 => ?_
  obtain ⟨n1, n2, p1, p2, q2⟩ := q2
  refine ⟨hl1.trans n1, hl2.trans n2, ?_⟩
  rw [← zipR_app hl1] at y2
  have hl : (vs ++ us).length = (ws ++ zs).length := by rw [List.length_append, List.length_append, hl1, hl2]
  refine ⟨G2.F, G2.bs, ws ++ zs, y2.sub, fun a ha => ⟨(y2.bok a ha).1, (y2.bok a ha).2.1⟩, (temps_zipR hl (fun w hw => (List.mem_append.mp hw).elim (p1 w) (p2 w)) y2.temps).1, (fun w => Q w env2), q2, fun w hw v G3 H3 hn y3 => ?_⟩
  obtain ⟨G4, y4⟩ := (y2.dropA hl).behind hn y3
  exact post v w env2 G4 H3 ⟨hn, hw⟩ y4
end
end Pw
/-! Pw10: isinstance against a tuple of types, xs[::-1], a def that calls itself. -/
namespace Pw
open PySem PySem.Spec PyProof.Rows L2
/-- an object comes that nobody speaks of -/
theorem Ok.scratch {K : PySem.W.Frag} {H0 F0 H : Hp} {bs0 : List Addr} {env : Env} {ts : List (V × W)} {σ : St} {G : Gh} {p : Addr} {o : HO} (x : Ok K H0 F0 bs0 env ts σ G H) (hp : H p = none) : Ok K H0 F0 bs0 env ts σ G (upd H p o) := by
  have f : Fro G H G (upd H p o) := ⟨Same.refl _, ⟨[], by simp⟩, fun _ _ q => q, fun a _ u _ q => by rw [upd_ne (ne_of_none q hp)]; exact q⟩
  refine ⟨x.len, fun b u q => ?_, fun b u nb q => ?_, x.f0, x.fnew, x.bpre, fun b hb => ?_, fun b k q => ?_, fun i w hw => ?_, TsOk.keep f (fun _ _ _ _ q => q) x.temps⟩
  · have := x.sub b u q; rw [upd_ne (ne_of_none this hp)]; exact this
  · have := x.ext b u nb q; rw [upd_ne (ne_of_none this hp)]; exact this
  · obtain ⟨⟨i, j, e1, e2⟩, q2⟩ := x.bok b hb
    exact ⟨⟨i, j, by rw [upd_ne (ne_of_none e1 hp)]; exact e1, e2⟩, q2⟩
  · obtain ⟨u, e⟩ := x.ow b k q
    exact ⟨u, by rw [upd_ne (ne_of_none e hp)]; exact e⟩
  · obtain ⟨nb, v, e, r⟩ := x.slots i w hw
    exact ⟨nb, v, e, r.keep f fun _ _ q => q⟩
def tysOf : List W → Option (List String)
  | [] => some []
  | .ty n :: r => match tysOf r with
    | some ns => some (n :: ns)
    | none => none
  | _ => none
def kitAnyS (t : String) : List String → Option Bool
  | [] => some false
  | n :: r => match kitB t n with
    | some true => some true
    | some false => kitAnyS t r
    | none => none
theorem kit_any {K : PySem.W.Frag} {t : String} : ∀ {ns : List String} {b : Bool}, kitAnyS t ns = some b → PySem.W.kitAny K (.type t) (ns.map Value.type) = some b
  | [], b, h => h
  | n :: r, b, h => by
    unfold kitAnyS at h
    show PySem.W.kitAny K (.type t) (Value.type n :: r.map Value.type) = some b
    unfold PySem.W.kitAny
    cases e : kitB t n with
    | none => rw [e] at h; cases h
    | some c =>
      rw [kit_ty (K := K) e]
      rw [e] at h
      cases c with
      | true => exact h
      | false => exact kit_any h
theorem tys_vals {K : PySem.W.Frag} {F : Hp} {bs : List Addr} : ∀ {vs : List V} {ws : List W} {ns : List String}, tysOf ws = some ns → PRs K F bs vs ws → vs = ns.map V.ty
  | [], [], ns, h, _ => by cases h; rfl
  | v :: vs, .ty n :: ws, ns, h, r => by
    unfold tysOf at h
    cases e : tysOf ws with
    | none => rw [e] at h; cases h
    | some es =>
      rw [e] at h
      cases h
      have e1 : v = V.ty n := r.1
      rw [e1, tys_vals e r.2]
      rfl
  | v :: vs, .val _ :: ws, ns, h, r => by cases h
  | v :: vs, .own _ :: ws, ns, h, r => by cases h
  | v :: vs, .bor _ :: ws, ns, h, r => by cases h
  | v :: vs, .bag _ :: ws, ns, h, r => by cases h
  | v :: vs, .scr _ :: ws, ns, h, r => by cases h
theorem tys_perm : ∀ {ws : List W} {ns : List String}, tysOf ws = some ns → ∀ w ∈ ws, permW w
  | [], _, _, w, hw => by cases hw
  | .ty n :: ws, ns, h, w, hw => by
    unfold tysOf at h
    cases e : tysOf ws with
    | none => rw [e] at h; cases h
    | some es =>
      rcases List.mem_cons.mp hw with rfl | hw
      · trivial
      · exact tys_perm e w hw
theorem cls_pair : ∀ ns : List String, Paired ClsV (ns.map V.ty) (ns.map Value.type)
  | [] => .nil
  | n :: r => .cons (.ty n) (cls_pair r)
section
variable {X : Cx} {a e : Expr} {es : List Expr} {φ φa : Phi} {φs : PhiA} {pos : Pos}
def pIsT (φa : Phi) (φs : PhiA) : Phi := fun env Q => φa env fun w e1 => φs e1 fun ws e => match tyOf w, tysOf ws with
  | some t, some ns => ws.length ≤ sizeLine ∧ (match kitAnyS t ns with
    | some b => Q (.val (.bool b)) e
    | none => False)
  | _, _ => False
theorem re_isT {k : Nat} {p tpos : Pos} (hm : X.mg "isinstance" = none) (ha : RB X a φa) (hs : RA X es φs) (hg : Gl X "isinstance" := by rfl)
    (he : starEach [a, .Tuple es k tpos] X.env = (false, eval a X.env) :: starEach [.Tuple es k tpos] X.env := by exact star_of rfl) (he2 : starEach [.Tuple es k tpos] X.env = (false, eval (.Tuple es k tpos) X.env) :: starEach [] X.env := by exact star_of rfl)
    (hpl : (backTo pos (starEach [.Tuple es k tpos] X.env)).any (·.1) = false := by exact plain_of rfl) :
    RE X (.Call (.Name "isinstance" p) [a, .Tuple es k tpos] [] pos) (pIsT φa φs) := .mk fun env Q q H0 F0 bs0 ts σ G H Q' x post => by
  refine PE.wk (pe_callB call_isiT hg hm PyProof.Rows.boot_isinstance (pa_cons wkE_ok (pa_cons (pe_tup wkA_ok) pa_nil he2) he) (by decide) (by decide) he hpl) ?_
  refine ha _ _ q _ _ _ _ _ _ _ _ x fun v w env1 G1 H1 q1 x1 => ?_
  refine hs _ _ q1 _ _ _ _ _ _ _ _ x1 fun vs ws env2 G2 H2 hl q2 x2 => ?_
  split at q2
  · rename_i t ns ht hn
    obtain ⟨hz, q2⟩ := q2
    split at q2
    · rename_i b hb
      have ev := tys_vals hn (temps_zipR hl (tys_perm hn) x2.temps).1
      have x3 := x2.dropA hl
      refine ⟨by rw [hl]; exact hz, fun p hp => ?_⟩
      have x4 := x3.scratch (o := .tup vs) hp
      refine ⟨v, p, vs, _, _, b, rfl, upd_same, by rw [ev]; exact cls_pair ns, Ok.tyTop x4 ht, kit_any hb, ?_⟩
      exact post _ _ _ _ _ ⟨nb_val, q2⟩ (x4.pop.pushV (.bl _))
    · exact q2.elim
  · exact q2.elim
/-- xs[::-1] -/
def pRev (φ : Phi) : Phi := fun env Q => φ env fun w e => match w.seq with
  | some ds => Q (.own ds.reverse) e
  | none => False
theorem RpA.rev {K : PySem.W.Frag} {F : Hp} {vs : List V} {ds : List PD} (r : RpA K F vs ds) : RpA K F vs.reverse ds.reverse := by
  have app : ∀ {vs us : List V} {ds es : List PD}, RpA K F vs ds → RpA K F us es → RpA K F (vs ++ us) (ds ++ es) := by
    intro vs us ds es r r'
    induction vs generalizing ds with
    | nil => cases r; exact r'
    | cons v vs ih => cases r with | cons h r => exact .cons h (ih r)
  induction vs generalizing ds with
  | nil => cases r; exact .nil
  | cons v vs ih =>
    cases r with
    | cons h r =>
      rw [List.reverse_cons, List.reverse_cons]
      exact app (ih r) (.cons h .nil)
theorem re_rev {k : Nat} {p1 p2 p3 : Pos} (ha : RB X a φa) : RE X (.Subscript a (.Slice none none (some (.UnaryOp .USub (.Constant (.int 1) k p1) p2)) p3) pos) (pRev φa) := .mk fun env Q q H0 F0 bs0 ts σ G H Q' x post => by
  refine PE.wk (pe_revL wkE_ok) ?_
  refine ha _ _ q _ _ _ _ _ _ _ _ x fun v w env1 G1 H1 q1 x1 => ?_
  split at q1
  · rename_i ds hd
    obtain ⟨a, us, e, ha, r⟩ := Ok.seqTop x1 hd
    exact ⟨a, us, e, by first | exact .inl ha | exact .inl (.inl ha), fun p hp => post _ _ _ _ _ ⟨nb_own, q1⟩ (x1.pop.newL hp r.rev)⟩
  · exact q1.elim
end
/-- one sign in a text -/
def inSD (neg : Bool) : W → W → (W → Prop) → Prop := fun a b P => match a, b with
  | .val (.str i), .val (.str z) => ∃ c : Nat, i = ⟨#[c]⟩ ∧ P (.val (.bool (neg != decide (c ∈ z.cps.toList))))
  | _, _ => False
theorem inSD_ok {K : PySem.W.Frag} : OpD K (fun x y H Q => ∃ (c : Nat) (z : Str), x = .str ⟨#[c]⟩ ∧ y = .str z ∧ Q (.bl (decide (c ∈ z.cps.toList))) H) (inSD false) := fun {H0 F0 bs0 env ts σ G H v1 v2 w1 w2 P Q'} x q p => by
  unfold inSD at q
  split at q
  · obtain ⟨c, rfl, q⟩ := q
    rw [Bool.false_bne] at q
    exact ⟨c, _, x.pop.str1, x.str1, p _ _ _ _ nb_val q (x.pop.pop.pushV (.bl _))⟩
  · exact q.elim
theorem ninSD_ok {K : PySem.W.Frag} : OpD K (fun x y H Q => ∃ (c : Nat) (z : Str), x = .str ⟨#[c]⟩ ∧ y = .str z ∧ Q (.bl (!decide (c ∈ z.cps.toList))) H) (inSD true) := fun {H0 F0 bs0 env ts σ G H v1 v2 w1 w2 P Q'} x q p => by
  unfold inSD at q
  split at q
  · obtain ⟨c, rfl, q⟩ := q
    rw [Bool.true_bne] at q
    exact ⟨c, _, x.pop.str1, x.str1, p _ _ _ _ nb_val q (x.pop.pop.pushV (.bl _))⟩
  · exact q.elim
/-- a is b, of bools -/
def isBD : W → W → (W → Prop) → Prop := fun a b P => match a, b with
  | .val (.bool x), .val (.bool y) => P (.val (.bool (x == y)))
  | _, _ => False
theorem Ok.bl1 {K : PySem.W.Frag} {H0 F0 H : Hp} {bs0 : List Addr} {env : Env} {ts : List (V × W)} {σ : St} {G : Gh} {v : V} {b : Bool} (x : Ok K H0 F0 bs0 env ((v, .val (.bool b)) :: ts) σ G H) : v = .bl b := by
  have r : Rp K G.F v (.bool b) := x.temps.1
  cases r
  rfl
theorem isBD_ok {K : PySem.W.Frag} : OpD K rIsB isBD := fun {H0 F0 bs0 env ts σ G H v1 v2 w1 w2 P Q'} x q p => by
  unfold isBD at q
  split at q
  · exact ⟨_, _, x.pop.bl1, x.bl1, p _ _ _ _ nb_val q (x.pop.pop.pushV (.bl _))⟩
  · exact q.elim
/-- nothing is promised -/
theorem fn_none {P : Program} {w : World} {K : PySem.W.Frag} {mg : Str → Option Value} {base : Heap} {k : Nat} {f : Addr} {fd : FuncData} {ps : List Str} {sp : Spec} (h : ∀ ws P, ¬ sp ws P) : FnOk P w K mg base CX0 k f fd ps (spOf K sp) :=
  ⟨fun vs H Q E q => by obtain ⟨_, _, ws, _, _, _, P, q, _⟩ := q; exact (h _ _ q).elim, fun A outer s H args us vs Q E _ _ _ _ q => by obtain ⟨_, _, ws, _, _, _, P, q, _⟩ := q; exact (h _ _ q).elim⟩
end Pw
namespace Pw
open PySem L2
local macro_rules | `(tactic| walk_at "pw") => `(tactic| try simp (config := { decide := false }) only [↓env0, ↓DE.ret, ↓sRet, ↓sRetV, ↓sRetN, ↓sNext, ↓sSeq, ↓sAsg, ↓sIf, ↓sApp, ↓sPut, ↓sAug, ↓sExt, ↓sDrop, ↓sPar2, ↓sPar3, ↓sFor, ↓sWhile, ↓pVar, ↓pPeek, ↓pC, ↓pW, ↓pBin, ↓pBool, ↓boolD, ↓pIsN, ↓isNon, ↓pChain, ↓pNeg, ↓pTru, ↓truD, ↓pNot, ↓pAndT, ↓pOrT, ↓pAndV, ↓pOrV, ↓pNotV, ↓pIf, ↓pNil, ↓pCons, W.fz, pds, ↓pTup, ↓pLst, ↓pCB, ↓pCall, ↓pCallD, ↓pCallK, ↓pIsT, ↓pRev, tysOf, kitAnyS, inSD, isBD, eq_self, ↓pNoPart, ↓pPart, ↓pSl, ↓slD, iiD, addD, W.seq, W.its, W.pd, eqD, neD, inD, flatD, ixD, lenD, min2D, max2D, intD, tupleD, listD, isiD, tyOf, ↓iVal, ↓pListRg2, itemsA, ↓iRange1, ↓iRange2, ↓pComp, ↓pYes, wipeE, ↓Tg.d, setMany, isOwn, kt_ii, kt_bi, kt_ib, kt_bb, kt_si, kt_sb, kt_ni, kt_nb, kt_li, kt_lb, kt_ti, kt_tb, kt_nt, kt_bt, kt_it, kt_st, kt_lt, kt_tt, kt_ns, kt_bs, kt_is, kt_ss, kt_ls, kt_ts, kt_nl, kt_bl, kt_il, kt_sl, kt_ll, kt_tl, eqv_ii, eqv_bb, eqv_ss, shp_none, shp_bool, shp_int, shp_nil, List.map_cons, List.map_nil, List.length_cons, List.length_nil, List.replicate, List.cons_append, List.nil_append, List.append_nil, List.getElem?_cons_zero, List.getElem?_cons_succ, List.set_cons_zero, List.set_cons_succ, List.set_nil, List.all_cons, List.all_nil, List.any_cons, List.any_nil, true_and, and_true, List.forall_mem_cons, List.forall_mem_nil, List.mem_cons, List.not_mem_nil, false_imp_iff, implies_true, forall_eq_or_imp, forall_eq, permW, Nat.reduceAdd, Nat.reduceSub, if_true, if_false, Bool.false_eq_true, reduceIte, Bool.not_true, Bool.not_false, Bool.and_true, Bool.true_and, Bool.and_false, Bool.false_and, Bool.or_true, Bool.or_false, Bool.true_or, Bool.false_or, decide_eq_true_eq, Bool.not_eq_true', decide_eq_false_iff_not, Bool.not_eq_true, Bool.true_bne, Bool.false_bne, reduceCtorEq, oD_some, sizeLine_eq, Nat.reduceLeDiff, Nat.reduceLT, Nat.lt_add_one, Nat.zero_le, ne_eq, not_true_eq_false, not_false_eq_true, if_neg, Int.reduceEq, Int.reduceToNat, decide_true, decide_false])
local macro_rules | `(tactic| walk_at "sq") => `(tactic| ((try dsimp only); refine seq_in ?_; walk_at "pw"))
abbrev c_LAST : PD := .int 91310
abbrev c_PLAIN_WORDS : PD := .tuple [.str "act", .str "allow", .str "grant", .str "reply", .str "appeal", .str "pay", .str "drop", .str "fee", .str "revive", .str "give"]
def sp_l_of : Spec := fun ws P => ∃ k ds, ws = [.bag k, .val (.list ds)] ∧ ds ≠ [] ∧ ds.length < 1000000 ∧ ∀ d ∈ ds, P (.val d)
theorem len_l_of : ∀ ws P, sp_l_of ws P → ws.length = 2 := by rintro _ _ ⟨_, _, rfl, _⟩; rfl
abbrev sp_l_take := spTake
abbrev sp_l_bag := spBag
def ψ_l_of : PhiS := (sRet (pBin ixD (pPeek 1) (pCall sp_l_take (pCons (pVar 0) (pCons (pCB lenD (pCons (pPeek 1) pNil)) pNil)))))

theorem body_l_of : ∀ ws P, sp_l_of ws P → ψ_l_of (env0 2 ws) (DE.ret P) := by
  rintro ws P ⟨k, ds, rfl, h0, h1, h⟩
  unfold ψ_l_of
  have hl : 0 < ds.length := List.length_pos_iff.mpr h0
  walk_at "pw"
  refine ⟨k, ds.length, rfl, by omega, by omega, fun r r0 r1 => ?_⟩
  walk_at "pw"
  have hr : r.toNat < ds.length := by omega
  exact ⟨_, atI_nat' (d := ds[r.toNat]) r0 (List.getElem?_eq_getElem hr), h _ (List.getElem_mem hr)⟩
def sp_law : Spec := fun ws P => ∃ ns : List Int, ws = [.scr ns] ∧ ns.length ≤ 63 ∧ P (.val (.bool true))
theorem len_law : ∀ ws P, sp_law ws P → ws.length = 1 := by rintro _ _ ⟨_, rfl, _⟩; rfl
theorem law_true (ns : List Int) (h : ns.length ≤ 63) : ∀ P : W → Prop, P (.val (.bool true)) → sp_law [.scr ns] P := fun P p => ⟨ns, rfl, h, p⟩
theorem cdv' {i j : Int} (h0 : 0 < j) (h1 : j < 1073741824) : L2.CDiv i j := ⟨h0, h1⟩
/-! what is laid out: plain things of at most m items each -/
inductive OkS (m : Nat) : PD → Prop
  | none : OkS m .none
  | bool (b : Bool) : OkS m (.bool b)
  | int (i : Int) : OkS m (.int i)
  | str (x : Str) : PyData.strOk x = true → x.length ≤ 20 → OkS m (.str x)
  | list (ds : List PD) : ds.length ≤ m → (∀ d ∈ ds, OkS m d) → OkS m (.list ds)
  | tuple (ds : List PD) : ds.length ≤ m → (∀ d ∈ ds, OkS m d) → OkS m (.tuple ds)
theorem OkS.mono {m n : Nat} (h : m ≤ n) : ∀ {d : PD}, OkS m d → OkS n d := by
  intro d k
  induction k with
  | none => exact .none
  | bool b => exact .bool b
  | int i => exact .int i
  | str x a b => exact .str x a b
  | list ds a _ ih => exact .list ds (by omega) ih
  | tuple ds a _ ih => exact .tuple ds (by omega) ih
/-- a value that stands for d -/
def Is (w : W) (d : PD) : Prop := w = .val d ∨ ∃ ds, d = .list ds ∧ w = .own ds
def oddL : List PD := [.none, .bool true, .bool false, .int 0, .int 1, .int (-1), .int 91311, .int (10 ^ 9), .str "", .str "a", .str "act", .str "Ann", .str "abcdefghi", .tuple [], .list [], .tuple [.int 1], .list [.str "a"], .list [.list []], .str "grant", .str "judged", .str "tie", .str "owner", .str "child", .str "lend", .int 121, .int 361, .int 10001, .int 37]
def sp_l_odd : Spec := fun ws P => ∃ k, ws = [.bag k] ∧ ∀ d, OkS 1 d → P (.val d)
theorem len_l_odd : ∀ ws P, sp_l_odd ws P → ws.length = 1 := by rintro _ _ ⟨_, rfl, _⟩; rfl
theorem odd_ok : ∀ d ∈ oddL, OkS 1 d := by
  intro d hd
  simp only [oddL, List.mem_cons, List.not_mem_nil, or_false] at hd
  rcases hd with rfl | rfl | rfl | rfl | rfl | rfl | rfl | rfl | rfl | rfl | rfl | rfl | rfl | rfl | rfl | rfl | rfl | rfl | rfl | rfl | rfl | rfl | rfl | rfl | rfl | rfl | rfl | rfl
  all_goals first
    | exact .none
    | exact .bool _
    | exact .int _
    | exact .str _ (by decide +kernel) (by decide +kernel)
    | exact .tuple [] (by decide) (fun d hd => by cases hd)
    | exact .list [] (by decide) (fun d hd => by cases hd)
    | exact .tuple [.int 1] (by decide) (fun d hd => by rw [List.mem_singleton] at hd; rw [hd]; exact .int _)
    | exact .list [.str "a"] (by decide) (fun d hd => by rw [List.mem_singleton] at hd; rw [hd]; exact .str _ (by decide +kernel) (by decide +kernel))
    | exact .list [.list []] (by decide) (fun d hd => by rw [List.mem_singleton] at hd; rw [hd]; exact .list [] (by decide) (fun d hd => by cases hd))
def ψ_l_odd : PhiS := (sSeq (sAsg (pLst (pCons (pC .none) (pCons (pC (.bool true)) (pCons (pC (.bool false)) (pCons (pC (.int 0)) (pCons (pC (.int 1)) (pCons (pNeg (pC (.int 1))) (pCons (pC (.int 91311)) (pCons (pBin powD (pC (.int 10)) (pC (.int 9))) (pCons (pC (.str "")) (pCons (pC (.str "a")) (pCons (pC (.str "act")) (pCons (pC (.str "Ann")) (pCons (pC (.str "abcdefghi")) (pCons (pTup pNil) (pCons (pLst pNil) (pCons (pTup (pCons (pC (.int 1)) pNil)) (pCons (pLst (pCons (pC (.str "a")) pNil)) (pCons (pLst (pCons (pLst pNil) pNil)) pNil))))))))))))))))))) (.var 1))
    (sRet (pCall sp_l_of (pCons (pVar 0) (pCons (pBin addD (pPeek 1) (pLst (pCons (pC (.str "grant")) (pCons (pC (.str "judged")) (pCons (pC (.str "tie")) (pCons (pC (.str "owner")) (pCons (pC (.str "child")) (pCons (pC (.str "lend")) (pCons (pC (.int 121)) (pCons (pC (.int 361)) (pCons (pC (.int 10001)) (pCons (pC (.int 37)) pNil)))))))))))) pNil)))))

theorem body_l_odd : ∀ ws P, sp_l_odd ws P → ψ_l_odd (env0 2 ws) (DE.ret P) := by
  rintro ws P ⟨k, rfl, h⟩
  unfold ψ_l_odd
  walk_at "sq"
  refine ⟨?_, ?_⟩
  · unfold L2.CPow; decide
  refine ⟨k, oddL, rfl, by simp [oddL], by decide, fun d hd => h d (odd_ok d hd)⟩
def spn_l_spoilt : Nat → Spec := fun n ws P => ∃ b m deep d, ws = [.bag b, .val d, .val (.int (deep : Nat))] ∧ deep < n ∧ m < 100 ∧ OkS m d ∧ ∀ d' w, OkS (m + 1) d' → Is w d' → P w
abbrev sp_l_spoilt := spn_l_spoilt 4
theorem len_l_spoilt : ∀ n ws P, spn_l_spoilt n ws P → ws.length = 3 := by rintro _ _ _ ⟨_, _, _, _, rfl, _⟩; rfl
theorem nil_l_spoilt : ∀ ws P, ¬ spn_l_spoilt 0 ws P := by rintro _ _ ⟨_, _, _, _, _, h, _⟩; omega
def ψ_l_spoilt (sp_self : Spec) : PhiS := (sSeq (sIf (pOrT (pNot (pTru (pIsT (pPeek 1) (pCons (pW (.ty "tuple")) (pCons (pW (.ty "list")) pNil))))) (pOrT (pBool (pBin eqD (pCB lenD (pCons (pPeek 1) pNil)) (pC (.int 0)))) (pOrT (pBool (pBin eqD (pPeek 2) (pC (.int 0)))) (pBool (pBin eqD (pCall sp_l_take (pCons (pVar 0) (pCons (pC (.int 6)) pNil))) (pC (.int 0))))))) (sRet (pCall sp_l_odd (pCons (pVar 0) pNil))) sNext)
    (sSeq (sAsg (pCB listD (pCons (pPeek 1) pNil)) (.var 3))
    (sSeq (sAsg (pCall sp_l_take (pCons (pVar 0) (pCons (pCB lenD (pCons (pPeek 3) pNil)) pNil))) (.var 4))
    (sSeq (sAsg (pCall sp_l_take (pCons (pVar 0) (pCons (pC (.int 8)) pNil))) (.var 5))
    (sSeq (sIf (pBool (pBin eqD (pPeek 5) (pC (.int 0)))) (sAsg (pBin addD (pSl (pPeek 3) pNoPart (pPart (pPeek 4))) (pSl (pPeek 3) (pPart (pBin addD (pPeek 4) (pC (.int 1)))) pNoPart)) (.var 3)) (sIf (pBool (pBin eqD (pPeek 5) (pC (.int 1)))) (sAsg (pBin addD (pSl (pPeek 3) pNoPart (pPart (pBin addD (pPeek 4) (pC (.int 1))))) (pSl (pPeek 3) (pPart (pPeek 4)) pNoPart)) (.var 3)) (sIf (pBool (pBin eqD (pPeek 5) (pC (.int 2)))) (sRet (pIf (pTru (pCB isiD (pCons (pPeek 1) (pCons (pW (.ty "tuple")) pNil)))) (pCB listD (pCons (pPeek 3) pNil)) (pCB tupleD (pCons (pPeek 3) pNil)))) (sIf (pBool (pBin eqD (pPeek 5) (pC (.int 3)))) (sAsg (pBin addD (pBin addD (pSl (pPeek 3) pNoPart (pPart (pPeek 4))) (pRev (pSl (pPeek 3) (pPart (pPeek 4)) (pPart (pBin addD (pPeek 4) (pC (.int 2))))))) (pSl (pPeek 3) (pPart (pBin addD (pPeek 4) (pC (.int 2)))) pNoPart)) (.var 3)) (sPut 3 (pCall sp_self (pCons (pVar 0) (pCons (pBin ixD (pPeek 3) (pPeek 4)) (pCons (pBin subD (pPeek 2) (pC (.int 1))) pNil)))) (pPeek 4))))))
    (sRet (pIf (pTru (pCB isiD (pCons (pPeek 1) (pCons (pW (.ty "tuple")) pNil)))) (pCB tupleD (pCons (pPeek 3) pNil)) (pVar 3))))))))

theorem sIx_nat (n k d : Nat) : HT.sIx n d (some (k : Int)) = min k n := by
  unfold HT.sIx
  simp
  omega
theorem cut_mem {α : Type} {xs : List α} {lo hi : Option Int} {x : α} (h : x ∈ cutL xs lo hi) : x ∈ xs := List.mem_of_mem_drop (List.mem_of_mem_take h)
theorem cut_to {α : Type} (xs : List α) (k : Nat) : (cutL xs none (some (k : Int))).length = min k xs.length := by
  unfold cutL
  rw [sIx_nat, List.length_take, List.length_drop, show HT.sIx xs.length 0 none = 0 from rfl]
  omega
theorem cut_from {α : Type} (xs : List α) (k : Nat) : (cutL xs (some (k : Int)) none).length = xs.length - k := by
  unfold cutL
  rw [sIx_nat, List.length_take, List.length_drop, show HT.sIx xs.length xs.length none = xs.length from rfl]
  omega
theorem cut_mid {α : Type} (xs : List α) (k j : Nat) : (cutL xs (some (k : Int)) (some (j : Int))).length = min j xs.length - min k xs.length := by
  unfold cutL
  rw [sIx_nat, sIx_nat, List.length_take, List.length_drop]
  omega
theorem body_l_spoilt : ∀ n ws P, spn_l_spoilt (n + 1) ws P → ψ_l_spoilt (spn_l_spoilt n) (env0 6 ws) (DE.ret P) := by
  rintro n ws P ⟨b, m, deep, d, rfl, h0, h1, h2, h⟩
  unfold ψ_l_spoilt
  have odd : Spc sp_l_odd [W.bag b] fun w => P w := ⟨b, rfl, fun d k => h d (.val d) (k.mono (by omega)) (.inl rfl)⟩
  cases h2 with
  | tuple ds hl he =>
    have fin : ∀ ds', ds'.length ≤ m + 1 → (∀ x ∈ ds', OkS (m + 1) x) → P (.val (.tuple ds')) := fun ds' z1 z2 => h (.tuple ds') _ (.tuple _ z1 z2) (.inl rfl)
    walk_at "sq"
    by_cases c0 : ds.length = 0
    · rw [if_pos (by omega)]; exact odd
    rw [if_neg (by omega)]
    by_cases c1 : deep = 0
    · rw [if_pos (by omega)]; exact odd
    rw [if_neg (by omega)]
    refine ⟨b, 6, rfl, by decide, by decide, fun r r0 r1 => ?_⟩
    walk_at "pw"
    by_cases c2 : r = 0
    · rw [if_pos c2]; exact odd
    rw [if_neg c2]
    walk_at "sq"
    walk_at "sq"
    refine ⟨b, ds.length, rfl, by omega, by omega, fun at_ a0 a1 => ?_⟩
    obtain ⟨i, rfl⟩ : ∃ n : Nat, at_ = (n : Int) := ⟨at_.toNat, by omega⟩
    have hi : i < ds.length := by omega
    walk_at "pw"
    walk_at "sq"
    refine ⟨b, 8, rfl, by decide, by decide, fun way w0 w1 => ?_⟩
    walk_at "pw"
    walk_at "sq"
    have e1 : (i : Int) + 1 = ((i + 1 : Nat) : Int) := by omega
    have e2 : (i : Int) + 2 = ((i + 2 : Nat) : Int) := by omega
    have inn : ∀ {x : PD} {lo hi : Option Int}, x ∈ cutL ds lo hi → OkS (m + 1) x := fun hx => (he _ (cut_mem hx)).mono (by omega)
    by_cases v0 : way = 0
    · rw [if_pos v0, e1]
      refine ⟨by rw [cut_to, cut_from]; omega, fin _ (by rw [List.length_append, cut_to, cut_from]; omega) fun x hx => ?_⟩
      rcases List.mem_append.mp hx with hx | hx <;> exact inn hx
    rw [if_neg v0]
    by_cases v1 : way = 1
    · rw [if_pos v1, e1]
      refine ⟨by rw [cut_to, cut_from]; omega, fin _ (by rw [List.length_append, cut_to, cut_from]; omega) fun x hx => ?_⟩
      rcases List.mem_append.mp hx with hx | hx <;> exact inn hx
    rw [if_neg v1]
    by_cases v2 : way = 2
    · rw [if_pos v2]
      exact h (.list ds) _ (.list _ (by omega) fun x hx => (he x hx).mono (by omega)) (.inr ⟨_, rfl, rfl⟩)
    rw [if_neg v2]
    by_cases v3 : way = 3
    · rw [if_pos v3, e2]
      refine ⟨by rw [List.length_reverse, cut_to, cut_mid]; omega, by rw [List.length_append, List.length_reverse, cut_to, cut_mid, cut_from]; omega, fin _ (by rw [List.length_append, List.length_append, List.length_reverse, cut_to, cut_mid, cut_from]; omega) fun x hx => ?_⟩
      rcases List.mem_append.mp hx with hx | hx
      · rcases List.mem_append.mp hx with hx | hx
        · exact inn hx
        · exact inn (List.mem_reverse.mp hx)
      · exact inn hx
    rw [if_neg v3]
    have e3 : (deep : Int) - 1 = ((deep - 1 : Nat) : Int) := by omega
    have e4 : L2.ixN ds.length (i : Int) = some i := by
      unfold L2.ixN
      rw [if_pos (by omega), if_pos (by omega), Int.toNat_natCast]
    rw [L2.atI_nat (List.getElem?_eq_getElem hi), oD_some]
    walk_at "pw"
    rw [e3]
    refine ⟨b, m, deep - 1, ds[i], rfl, by omega, h1, he _ (List.getElem_mem hi), fun d' w hd hw => ?_⟩
    have put : ∀ x ∈ ds.set i d', OkS (m + 1) x := fun x hx => by
      rcases List.mem_or_eq_of_mem_set hx with hx | rfl
      · exact (he x hx).mono (by omega)
      · exact hd
    rcases hw with rfl | ⟨es, rfl, rfl⟩
    · walk_at "pw"
      rw [e4]
      walk_at "pw"
      exact fin _ (by rw [List.length_set]; omega) put
    · walk_at "pw"
      rw [e4]
      walk_at "pw"
      exact fin _ (by rw [List.length_set]; omega) put
  | list ds hl he =>
    have fin : ∀ ds', ds'.length ≤ m + 1 → (∀ x ∈ ds', OkS (m + 1) x) → P (.val (.list ds')) := fun ds' z1 z2 => h (.list ds') _ (.list _ z1 z2) (.inl rfl)
    walk_at "sq"
    by_cases c0 : ds.length = 0
    · rw [if_pos (by omega)]; exact odd
    rw [if_neg (by omega)]
    by_cases c1 : deep = 0
    · rw [if_pos (by omega)]; exact odd
    rw [if_neg (by omega)]
    refine ⟨b, 6, rfl, by decide, by decide, fun r r0 r1 => ?_⟩
    walk_at "pw"
    by_cases c2 : r = 0
    · rw [if_pos c2]; exact odd
    rw [if_neg c2]
    walk_at "sq"
    walk_at "sq"
    refine ⟨b, ds.length, rfl, by omega, by omega, fun at_ a0 a1 => ?_⟩
    obtain ⟨i, rfl⟩ : ∃ n : Nat, at_ = (n : Int) := ⟨at_.toNat, by omega⟩
    have hi : i < ds.length := by omega
    walk_at "pw"
    walk_at "sq"
    refine ⟨b, 8, rfl, by decide, by decide, fun way w0 w1 => ?_⟩
    walk_at "pw"
    walk_at "sq"
    have e1 : (i : Int) + 1 = ((i + 1 : Nat) : Int) := by omega
    have e2 : (i : Int) + 2 = ((i + 2 : Nat) : Int) := by omega
    have inn : ∀ {x : PD} {lo hi : Option Int}, x ∈ cutL ds lo hi → OkS (m + 1) x := fun hx => (he _ (cut_mem hx)).mono (by omega)
    by_cases v0 : way = 0
    · rw [if_pos v0, e1]
      refine ⟨by rw [cut_to, cut_from]; omega, fin _ (by rw [List.length_append, cut_to, cut_from]; omega) fun x hx => ?_⟩
      rcases List.mem_append.mp hx with hx | hx <;> exact inn hx
    rw [if_neg v0]
    by_cases v1 : way = 1
    · rw [if_pos v1, e1]
      refine ⟨by rw [cut_to, cut_from]; omega, fin _ (by rw [List.length_append, cut_to, cut_from]; omega) fun x hx => ?_⟩
      rcases List.mem_append.mp hx with hx | hx <;> exact inn hx
    rw [if_neg v1]
    by_cases v2 : way = 2
    · rw [if_pos v2]
      exact h (.tuple ds) _ (.tuple _ (by omega) fun x hx => (he x hx).mono (by omega)) (.inl rfl)
    rw [if_neg v2]
    by_cases v3 : way = 3
    · rw [if_pos v3, e2]
      refine ⟨by rw [List.length_reverse, cut_to, cut_mid]; omega, by rw [List.length_append, List.length_reverse, cut_to, cut_mid, cut_from]; omega, fin _ (by rw [List.length_append, List.length_append, List.length_reverse, cut_to, cut_mid, cut_from]; omega) fun x hx => ?_⟩
      rcases List.mem_append.mp hx with hx | hx
      · rcases List.mem_append.mp hx with hx | hx
        · exact inn hx
        · exact inn (List.mem_reverse.mp hx)
      · exact inn hx
    rw [if_neg v3]
    have e3 : (deep : Int) - 1 = ((deep - 1 : Nat) : Int) := by omega
    have e4 : L2.ixN ds.length (i : Int) = some i := by
      unfold L2.ixN
      rw [if_pos (by omega), if_pos (by omega), Int.toNat_natCast]
    rw [L2.atI_nat (List.getElem?_eq_getElem hi), oD_some]
    walk_at "pw"
    rw [e3]
    refine ⟨b, m, deep - 1, ds[i], rfl, by omega, h1, he _ (List.getElem_mem hi), fun d' w hd hw => ?_⟩
    have put : ∀ x ∈ ds.set i d', OkS (m + 1) x := fun x hx => by
      rcases List.mem_or_eq_of_mem_set hx with hx | rfl
      · exact (he x hx).mono (by omega)
      · exact hd
    rcases hw with rfl | ⟨es, rfl, rfl⟩
    · walk_at "pw"
      rw [e4]
      walk_at "pw"
      exact fin _ (by rw [List.length_set]; omega) put
    · walk_at "pw"
      rw [e4]
      walk_at "pw"
      exact fin _ (by rw [List.length_set]; omega) put
  | none => walk_at "sq"; exact odd
  | bool _ => walk_at "sq"; exact odd
  | int _ => walk_at "sq"; exact odd
  | str _ _ _ => walk_at "sq"; exact odd
/-! what is a paper -/
def letters : List Nat := (Str.ofString "abcdefghijklmnopqrstuvwxyz").cps.toList
def isName : PD → Bool
  | .str s => decide (1 ≤ s.length) && decide (s.length ≤ 8) && s.cps.toList.all fun c => decide (c ∈ letters)
  | _ => false
def isFrom : PD → Int → Int → Bool
  | .int i, lo, hi => decide (lo ≤ i) && decide (i ≤ hi)
  | _, _, _ => false
def sp_is_from : Spec := fun ws P => ∃ d lo hi m, ws = [.val d, .val (.int lo), .val (.int hi)] ∧ OkS m d ∧ P (.val (.bool (isFrom d lo hi)))
theorem len_is_from : ∀ ws P, sp_is_from ws P → ws.length = 3 := by rintro _ _ ⟨d, lo, hi, m, rfl, _⟩; rfl
def ψ_is_from : PhiS := (sRet (pAndV (pCB isiD (pCons (pPeek 0) (pCons (pW (.ty "int")) pNil))) (pAndV (pNotV (pCB isiD (pCons (pPeek 0) (pCons (pW (.ty "bool")) pNil)))) (pChain leD leD (pPeek 1) (pPeek 0) (pPeek 2)))))

theorem body_is_from : ∀ ws P, sp_is_from ws P → ψ_is_from (env0 3 ws) (DE.ret P) := by
  rintro ws P ⟨d, lo, hi, m, rfl, h0, h⟩
  unfold ψ_is_from
  cases h0 with
  | int i =>
    walk_at "pw"
    simp only [isFrom] at h
    by_cases c : lo ≤ i
    · simp only [c, decide_true, Bool.true_and, if_true] at h ⊢; exact h
    · simp only [c, decide_false, Bool.false_and, if_false] at h ⊢; exact h
  | _ => walk_at "pw"; simpa only [isFrom] using h
def sp_l_from : Spec := sp_is_from
theorem len_l_from : ∀ ws P, sp_l_from ws P → ws.length = 3 := len_is_from
def ψ_l_from : PhiS := (sRet (pAndV (pCB isiD (pCons (pPeek 0) (pCons (pW (.ty "int")) pNil))) (pAndV (pNotV (pCB isiD (pCons (pPeek 0) (pCons (pW (.ty "bool")) pNil)))) (pChain leD leD (pPeek 1) (pPeek 0) (pPeek 2)))))

theorem body_l_from : ∀ ws P, sp_l_from ws P → ψ_l_from (env0 3 ws) (DE.ret P) := body_is_from
def sp_is_day : Spec := fun ws P => ∃ d m, ws = [.val d] ∧ OkS m d ∧ P (.val (.bool (isFrom d 0 91310)))
theorem len_is_day : ∀ ws P, sp_is_day ws P → ws.length = 1 := by rintro _ _ ⟨d, m, rfl, _⟩; rfl
def ψ_is_day : PhiS := (sRet (pCall sp_is_from (pCons (pVar 0) (pCons (pC (.int 0)) (pCons (pC c_LAST) pNil)))))

theorem body_is_day : ∀ ws P, sp_is_day ws P → ψ_is_day (env0 1 ws) (DE.ret P) := by
  rintro ws P ⟨d, m, rfl, h0, h⟩
  unfold ψ_is_day
  walk_at "pw"
  exact ⟨d, 0, 91310, m, rfl, h0, h⟩
def sp_l_same : Spec := fun ws P => ∃ a b, ws = [.val (.bool a), .val (.bool b)] ∧ P (.val (.bool (a == b)))
theorem len_l_same : ∀ ws P, sp_l_same ws P → ws.length = 2 := by rintro _ _ ⟨_, _, rfl, _⟩; rfl
def ψ_l_same : PhiS := (sRet (pAndV (pCB isiD (pCons (pPeek 0) (pCons (pW (.ty "bool")) pNil))) (pBin eqD (pPeek 0) (pPeek 1))))

theorem body_l_same : ∀ ws P, sp_l_same ws P → ψ_l_same (env0 2 ws) (DE.ret P) := by
  rintro ws P ⟨a, b, rfl, h⟩
  unfold ψ_l_same
  walk_at "pw"
  exact h
def sp_l_day : Spec := fun ws P => ∃ k, ws = [.bag k] ∧ ∀ i : Int, 0 ≤ i → i ≤ 91310 → P (.val (.int i))
theorem len_l_day : ∀ ws P, sp_l_day ws P → ws.length = 1 := by rintro _ _ ⟨_, rfl, _⟩; rfl
def ψ_l_day : PhiS := (sRet (pCall sp_l_of (pCons (pVar 0) (pCons (pLst (pCons (pBin addD (pC (.int 36000)) (pCall sp_l_take (pCons (pVar 0) (pCons (pC (.int 4000)) pNil)))) (pCons (pBin addD (pC (.int 36000)) (pCall sp_l_take (pCons (pVar 0) (pCons (pC (.int 4000)) pNil)))) (pCons (pC (.int 0)) (pCons (pC (.int 91310)) (pCons (pCall sp_l_take (pCons (pVar 0) (pCons (pC (.int 91311)) pNil))) pNil)))))) pNil))))

theorem body_l_day : ∀ ws P, sp_l_day ws P → ψ_l_day (env0 1 ws) (DE.ret P) := by
  rintro ws P ⟨k, rfl, h⟩
  unfold ψ_l_day
  walk_at "pw"
  refine ⟨k, 4000, rfl, by decide, by decide, fun a a0 a1 => ?_⟩
  walk_at "pw"
  refine ⟨k, 4000, rfl, by decide, by decide, fun b b0 b1 => ?_⟩
  walk_at "pw"
  refine ⟨k, 91311, rfl, by decide, by decide, fun c c0 c1 => ?_⟩
  walk_at "pw"
  refine ⟨k, _, rfl, by simp, by simp, fun d hd => ?_⟩
  simp only [List.mem_cons, List.not_mem_nil, or_false] at hd
  rcases hd with rfl | rfl | rfl | rfl | rfl <;> exact h _ (by omega) (by omega)
theorem signs_len (s : Str) : (signs s).length = s.length := by simp [signs, Str.length]
def sp_is_name : Spec := fun ws P => ∃ d m, ws = [.val d] ∧ OkS m d ∧ P (.val (.bool (isName d)))
theorem len_is_name : ∀ ws P, sp_is_name ws P → ws.length = 1 := by rintro _ _ ⟨d, m, rfl, _⟩; rfl
def ψ_is_name : PhiS := (sSeq (sIf (pOrT (pNot (pTru (pCB isiD (pCons (pPeek 0) (pCons (pW (.ty "str")) pNil))))) (pNot (pBool (pChain leD leD (pC (.int 1)) (pCB lenD (pCons (pPeek 0) pNil)) (pC (.int 8)))))) (sRet (pC (.bool false))) sNext)
    (sRet (pCB (allD fun bs => bs.all id) (pCons (pComp (iVal (pVar 0)) (.var 1) pYes (pBin (inSD false) (pPeek 1) (pC (.str "abcdefghijklmnopqrstuvwxyz"))) [1]) pNil))))

theorem comp_name {Q : List PD → Prop} {e0 : Option W} : ∀ (cs : List Nat) (acc : List Bool), acc.length + cs.length ≤ 100 → Q ((acc ++ cs.map fun c => decide (c ∈ letters)).map .bool) →
    compL (.var 1) pYes (pBin (inSD false) (pPeek 1) (pC (.str "abcdefghijklmnopqrstuvwxyz"))) [e0, none] Q (cs.map fun c => .str ⟨#[c]⟩) (acc.map .bool)
  | [], acc, _, h => by simpa [compL] using h
  | c :: cs, acc, h0, h => by
    simp only [List.length_cons] at h0
    rw [List.map_cons]
    simp only [compL]
    walk_at "pw"
    refine ⟨c, rfl, ?_⟩
    walk_at "pw"
    have hz : (acc.map PyData.bool).length < sizeLine := Nat.lt_of_le_of_lt (show _ ≤ 100 by rw [List.length_map]; omega) (by decide)
    have ih := comp_name (Q := Q) (e0 := e0) cs (acc ++ [decide (c ∈ letters)]) (by simp; omega) (by simpa using h)
    rw [List.map_append] at ih
    exact ⟨hz, ih⟩
theorem comp_l_name {Q : List PD → Prop} {e0 : Option W} : ∀ (cs : List Nat) (acc : List PD), acc.length + cs.length ≤ 100 → Q (acc ++ (cs.filter fun c => !decide (c ∈ letters)).map fun c => .str ⟨#[c]⟩) →
    compL (.var 1) (pBool (pBin (inSD true) (pPeek 1) (pC (.str "abcdefghijklmnopqrstuvwxyz")))) (pVar 1) [e0, none] Q (cs.map fun c => .str ⟨#[c]⟩) acc
  | [], acc, _, h => by simpa [compL] using h
  | c :: cs, acc, h0, h => by
    simp only [List.length_cons] at h0
    rw [List.map_cons]
    simp only [compL]
    walk_at "pw"
    refine ⟨c, rfl, ?_⟩
    have hz : acc.length < sizeLine := Nat.lt_of_le_of_lt (show _ ≤ 100 by omega) (by decide)
    by_cases k : c ∈ letters
    · have ih := comp_l_name (Q := Q) (e0 := e0) cs acc (by omega) (by simpa [k] using h)
      walk_at "pw"
      rw [if_neg (fun z => z k)]
      exact ih
    · have ih := comp_l_name (Q := Q) (e0 := e0) cs (acc ++ [.str ⟨#[c]⟩]) (by simp; omega) (by simpa [k] using h)
      walk_at "pw"
      rw [if_pos (show ¬ c ∈ (Str.ofString "abcdefghijklmnopqrstuvwxyz").cps.toList from k)]
      exact ⟨hz, ih⟩
theorem eqv_nil {ds : List PD} : PyData.eqv (.list ds) (.list []) = ds.isEmpty := by
  cases ds <;> simp [PyData.eqv, PyData.eqvAll]
theorem isName_out {s : Str} (h : ¬ (1 ≤ s.length ∧ s.length ≤ 8)) : isName (.str s) = false := by
  simp only [isName, Bool.and_eq_false_iff, decide_eq_false_iff_not]
  omega
theorem isName_in {s : Str} (h1 : 1 ≤ s.length) (h2 : s.length ≤ 8) : isName (.str s) = s.cps.toList.all fun c => decide (c ∈ letters) := by
  simp only [isName, h1, h2, decide_true, Bool.true_and]
theorem body_is_name : ∀ ws P, sp_is_name ws P → ψ_is_name (env0 2 ws) (DE.ret P) := by
  rintro ws P ⟨d, m, rfl, h0, h⟩
  unfold ψ_is_name
  cases h0 with
  | str s a1 a2 =>
    walk_at "sq"
    refine ⟨by omega, ?_⟩
    by_cases c1 : 1 ≤ s.length
    · rw [if_pos (by omega)]
      by_cases c2 : s.length ≤ 8
      · rw [if_neg (by omega)]
        refine comp_name s.cps.toList [] (by show 0 + s.cps.toList.length ≤ 100; have : s.cps.toList.length = s.length := by simp [Str.length]
                                             omega) ?_
        refine ⟨_, rfl, ?_⟩
        rw [isName_in c1 c2] at h
        simpa [List.all_map] using h
      · rw [if_pos (by omega)]
        rw [isName_out (by omega)] at h
        exact h
    · rw [if_neg (by omega)]
      rw [isName_out (by omega)] at h
      exact h
  | _ => walk_at "sq"; simpa only [isName] using h
def sp_l_is_name : Spec := sp_is_name
theorem len_l_is_name : ∀ ws P, sp_l_is_name ws P → ws.length = 1 := len_is_name
def ψ_l_is_name : PhiS := (sSeq (sIf (pOrT (pNot (pTru (pCB isiD (pCons (pPeek 0) (pCons (pW (.ty "str")) pNil))))) (pNot (pBool (pChain leD leD (pC (.int 1)) (pCB lenD (pCons (pPeek 0) pNil)) (pC (.int 8)))))) (sRet (pC (.bool false))) sNext)
    (sRet (pBin eqD (pComp (iVal (pVar 0)) (.var 1) (pBool (pBin (inSD true) (pPeek 1) (pC (.str "abcdefghijklmnopqrstuvwxyz")))) (pVar 1) [1]) (pLst pNil))))

theorem body_l_is_name : ∀ ws P, sp_l_is_name ws P → ψ_l_is_name (env0 2 ws) (DE.ret P) := by
  rintro ws P ⟨d, m, rfl, h0, h⟩
  unfold ψ_l_is_name
  cases h0 with
  | str s a1 a2 =>
    walk_at "sq"
    refine ⟨by omega, ?_⟩
    by_cases c1 : 1 ≤ s.length
    · rw [if_pos (by omega)]
      by_cases c2 : s.length ≤ 8
      · rw [if_neg (by omega)]
        refine comp_l_name s.cps.toList [] (by show 0 + s.cps.toList.length ≤ 100; have : s.cps.toList.length = s.length := by simp [Str.length]
                                               omega) ?_
        rw [isName_in c1 c2] at h
        rw [List.nil_append]
        refine ⟨Nat.zero_le _, ?_, shp_nil, ?_⟩
        · refine (shpN_list (n := 0) fun d hd => ?_).shp (by decide)
          obtain ⟨c, hc, rfl⟩ := List.mem_map.mp hd
          have hc := (List.mem_filter.mp hc).1
          have a1 := a1
          unfold PyData.strOk at a1
          rw [← Array.all_toList] at a1
          have q := of_decide_eq_true (List.all_eq_true.mp a1 c hc)
          exact shpN_str (by simp [PyData.strOk]; exact q)
        · rw [eqv_nil]
          have e : (((s.cps.toList.filter fun c => !decide (c ∈ letters)).map fun c => PyData.str ⟨#[c]⟩)).isEmpty = s.cps.toList.all fun c => decide (c ∈ letters) := by
            rw [List.isEmpty_map]
            generalize s.cps.toList = l
            induction l with
            | nil => rfl
            | cons c l ih =>
              by_cases k : c ∈ letters
              · simp only [List.filter_cons, List.all_cons, k, decide_true, Bool.not_true, Bool.false_eq_true, if_false, Bool.true_and]
                exact ih
              · simp [k]
          rw [e]
          exact h
      · rw [if_pos (by omega)]
        rw [isName_out (by omega)] at h
        exact h
    · rw [if_neg (by omega)]
      rw [isName_out (by omega)] at h
      exact h
  | _ => walk_at "sq"; simpa only [isName] using h
def isB : PD → Bool
  | .bool _ => true
  | _ => false
def isNo : PD → Bool
  | .none => true
  | _ => false
def wordL : List Str := ["act", "allow", "grant", "reply", "appeal", "pay", "drop", "fee", "revive", "give"]
theorem deq {a w : Str} : (decide (a = w) = true) ↔ w = a := by rw [decide_eq_true_eq]; exact eq_comm
theorem bor {a b : Bool} {p q : Prop} (h1 : a = true ↔ p) (h2 : b = true ↔ q) : ((a || b) = true) ↔ (p ∨ q) := by rw [Bool.or_eq_true, h1, h2]
theorem words_iff {w : Str} : ((decide (Str.ofString "act" = w) || (decide (Str.ofString "allow" = w) || (decide (Str.ofString "grant" = w) || (decide (Str.ofString "reply" = w) || (decide (Str.ofString "appeal" = w) || (decide (Str.ofString "pay" = w) || (decide (Str.ofString "drop" = w) || (decide (Str.ofString "fee" = w) || (decide (Str.ofString "revive" = w) || decide (Str.ofString "give" = w)))))))))) = true) ↔ w ∈ wordL := by
  simp only [wordL, List.mem_cons, List.not_mem_nil, or_false]
  exact bor deq (bor deq (bor deq (bor deq (bor deq (bor deq (bor deq (bor deq (bor deq deq))))))))
def isMore (w : Str) (x : PD) : Bool := if w = "owner" ∨ w = "tie" then isName x else if w = "judged" then isB x else decide (w ∈ wordL) && isNo x
def isPaper : PD → Bool
  | .tuple [d, .str w, x] => isFrom d 0 91310 && isMore w x
  | _ => false
def sp_is_paper : Spec := fun ws P => ∃ d m, ws = [.val d] ∧ OkS m d ∧ P (.val (.bool (isPaper d)))
theorem len_is_paper : ∀ ws P, sp_is_paper ws P → ws.length = 1 := by rintro _ _ ⟨d, m, rfl, _⟩; rfl
def ψ_is_paper : PhiS := (sSeq (sIf (pOrT (pNot (pTru (pCB isiD (pCons (pPeek 0) (pCons (pW (.ty "tuple")) pNil))))) (pOrT (pBool (pBin neD (pCB lenD (pCons (pPeek 0) pNil)) (pC (.int 3)))) (pOrT (pNot (pTru (pCall sp_is_day (pCons (pBin ixD (pPeek 0) (pC (.int 0))) pNil)))) (pNot (pTru (pCB isiD (pCons (pBin ixD (pPeek 0) (pC (.int 1))) (pCons (pW (.ty "str")) pNil)))))))) (sRet (pC (.bool false))) sNext)
    (sSeq (sAsg (pVar 0) (.tup [1, 2, 3]))
    (sSeq (sIf (pBool (pBin (inD false) (pPeek 2) (pTup (pCons (pC (.str "owner")) (pCons (pC (.str "tie")) pNil))))) (sRet (pCall sp_is_name (pCons (pVar 3) pNil))) sNext)
    (sSeq (sIf (pBool (pBin eqD (pPeek 2) (pC (.str "judged")))) (sRet (pCB isiD (pCons (pPeek 3) (pCons (pW (.ty "bool")) pNil)))) sNext)
    (sRet (pAndV (pBin (inD false) (pPeek 2) (pC c_PLAIN_WORDS)) (pIsN false (pPeek 3))))))))

theorem isPaper_not {ds : List PD} (h : ds.length ≠ 3) : isPaper (.tuple ds) = false := by
  unfold isPaper
  split
  · rename_i e; cases e; exact absurd rfl h
  · rfl
theorem isPaper_day {x y z : PD} (h : isFrom x 0 91310 = false) : isPaper (.tuple [x, y, z]) = false := by
  cases y <;> first | rfl | (simp only [isPaper, h, Bool.false_and])
theorem isPaper_word {x y z : PD} (h : ∀ s, y ≠ .str s) : isPaper (.tuple [x, y, z]) = false := by
  cases y <;> first | rfl | exact (h _ rfl).elim
theorem body_is_paper : ∀ ws P, sp_is_paper ws P → ψ_is_paper (env0 4 ws) (DE.ret P) := by
  rintro ws P ⟨d, m, rfl, h0, h⟩
  unfold ψ_is_paper
  cases h0 with
  | tuple ds a1 a2 =>
    by_cases c : ds.length = 3
    · match ds, c with
      | [x, y, z], _ =>
        have ox := a2 x (by simp)
        have oy := a2 y (by simp)
        have oz := a2 z (by simp)
        walk_at "sq"
        rw [if_neg (by decide)]
        refine ⟨x, rfl, ?_⟩
        walk_at "pw"
        refine ⟨x, m, rfl, ox, ?_⟩
        walk_at "pw"
        cases cx : isFrom x 0 91310 with
        | false =>
          rw [isPaper_day cx] at h
          exact h
        | true =>
          walk_at "pw"
          refine ⟨y, rfl, ?_⟩
          cases oy with
          | str w b1 b2 =>
            walk_at "pw"
            walk_at "sq"
            walk_at "sq"
            have hP : isPaper (.tuple [x, .str w, z]) = isMore w z := by simp only [isPaper, cx, Bool.true_and]
            rw [hP] at h
            unfold isMore at h
            by_cases e1 : w = "owner" ∨ w = "tie"
            · rw [if_pos e1] at h
              rw [if_pos ((bor deq deq).mpr e1)]
              exact ⟨z, m, rfl, oz, h⟩
            · rw [if_neg e1] at h
              rw [if_neg (fun k => e1 ((bor deq deq).mp k))]
              walk_at "sq"
              refine ⟨(shpN_str b1).shp (by decide), (shpN_str (by decide +kernel)).shp (by decide), ?_⟩
              by_cases e2 : w = "judged"
              · rw [if_pos e2] at h
                rw [if_pos e2]
                cases oz <;> exact h
              · rw [if_neg e2] at h
                rw [if_neg e2]
                by_cases e3 : w ∈ wordL
                · rw [if_pos (words_iff.mpr e3)]
                  rw [decide_eq_true e3, Bool.true_and] at h
                  cases oz <;> exact h
                · rw [if_neg (fun k => e3 (words_iff.mp k))]
                  rw [decide_eq_false e3, Bool.false_and] at h
                  exact h
          | _ => walk_at "pw"; rw [isPaper_word (by intro s e; cases e)] at h; exact h
    · rw [isPaper_not c] at h
      walk_at "sq"
      rw [if_pos (by omega)]
      exact h
  | _ => walk_at "sq"; simpa only [isPaper] using h
def sp_l_is_paper : Spec := sp_is_paper
theorem len_l_is_paper : ∀ ws P, sp_l_is_paper ws P → ws.length = 1 := len_is_paper
def ψ_l_is_paper : PhiS := (sSeq (sIf (pOrT (pNot (pTru (pCB isiD (pCons (pPeek 0) (pCons (pW (.ty "tuple")) pNil))))) (pOrT (pBool (pBin neD (pCB lenD (pCons (pPeek 0) pNil)) (pC (.int 3)))) (pNot (pTru (pCall sp_l_from (pCons (pBin ixD (pPeek 0) (pC (.int 0))) (pCons (pC (.int 0)) (pCons (pC (.int 91310)) pNil)))))))) (sRet (pC (.bool false))) sNext)
    (sSeq (sPar2 2 3 (pBin ixD (pPeek 0) (pC (.int 1))) (pBin ixD (pPeek 0) (pC (.int 2))))
    (sSeq (sIf (pNot (pTru (pCB isiD (pCons (pPeek 2) (pCons (pW (.ty "str")) pNil))))) (sRet (pC (.bool false))) sNext)
    (sSeq (sIf (pBool (pBin (inD false) (pPeek 2) (pLst (pCons (pC (.str "owner")) (pCons (pC (.str "tie")) pNil))))) (sRet (pCall sp_l_is_name (pCons (pVar 3) pNil))) sNext)
    (sSeq (sIf (pBool (pBin eqD (pPeek 2) (pC (.str "judged")))) (sRet (pCB isiD (pCons (pPeek 3) (pCons (pW (.ty "bool")) pNil)))) sNext)
    (sSeq (sAsg (pLst (pCons (pC (.str "act")) (pCons (pC (.str "allow")) (pCons (pC (.str "grant")) (pCons (pC (.str "reply")) (pCons (pC (.str "appeal")) (pCons (pC (.str "pay")) (pCons (pC (.str "drop")) (pCons (pC (.str "fee")) (pCons (pC (.str "revive")) (pCons (pC (.str "give")) pNil))))))))))) (.var 1))
    (sRet (pAndV (pBin (inD false) (pPeek 2) (pPeek 1)) (pIsN false (pPeek 3))))))))))

theorem body_l_is_paper : ∀ ws P, sp_l_is_paper ws P → ψ_l_is_paper (env0 4 ws) (DE.ret P) := by
  rintro ws P ⟨d, m, rfl, h0, h⟩
  unfold ψ_l_is_paper
  cases h0 with
  | tuple ds a1 a2 =>
    by_cases c : ds.length = 3
    · match ds, c with
      | [x, y, z], _ =>
        have ox := a2 x (by simp)
        have oy := a2 y (by simp)
        have oz := a2 z (by simp)
        walk_at "sq"
        rw [if_neg (by decide)]
        refine ⟨x, rfl, ?_⟩
        walk_at "pw"
        refine ⟨x, _, _, m, rfl, ox, ?_⟩
        walk_at "pw"
        cases cx : isFrom x 0 91310 with
        | false =>
          rw [isPaper_day cx] at h
          exact h
        | true =>
          walk_at "pw"
          walk_at "sq"
          refine ⟨y, rfl, ?_⟩
          walk_at "pw"
          refine ⟨z, rfl, ?_⟩
          walk_at "pw"
          cases oy with
          | str w b1 b2 =>
            have hP : isPaper (.tuple [x, .str w, z]) = isMore w z := by simp only [isPaper, cx, Bool.true_and]
            rw [hP] at h
            unfold isMore at h
            walk_at "sq"
            walk_at "sq"
            by_cases e1 : w = "owner" ∨ w = "tie"
            · rw [if_pos e1] at h
              rw [if_pos ((bor deq deq).mpr e1)]
              exact ⟨z, m, rfl, oz, h⟩
            · rw [if_neg e1] at h
              rw [if_neg (fun k => e1 ((bor deq deq).mp k))]
              walk_at "sq"
              refine ⟨(shpN_str b1).shp (by decide), (shpN_str (by decide +kernel)).shp (by decide), ?_⟩
              by_cases e2 : w = "judged"
              · rw [if_pos e2] at h
                rw [if_pos e2]
                cases oz <;> exact h
              · rw [if_neg e2] at h
                rw [if_neg e2]
                walk_at "sq"
                by_cases e3 : w ∈ wordL
                · rw [if_pos (words_iff.mpr e3)]
                  rw [decide_eq_true e3, Bool.true_and] at h
                  cases oz <;> exact h
                · rw [if_neg (fun k => e3 (words_iff.mp k))]
                  rw [decide_eq_false e3, Bool.false_and] at h
                  exact h
          | _ => walk_at "sq"; rw [isPaper_word (by intro s e; cases e)] at h; exact h
    · rw [isPaper_not c] at h
      walk_at "sq"
      rw [if_pos (by omega)]
      exact h
  | _ => walk_at "sq"; simpa only [isPaper] using h
def χ_law_0 : PhiS := (sSeq (sIf (pNot (pTru (pCall sp_l_same (pCons (pCall sp_is_paper (pCons (pVar 6) pNil)) (pCons (pCall sp_l_is_paper (pCons (pVar 6) pNil)) pNil))))) (sRet (pC (.bool false))) sNext)
    (sAsg (pCall sp_l_spoilt (pCons (pVar 3) (pCons (pVar 6) (pCons (pC (.int 2)) pNil)))) (.var 6)))
def χ_law_1 : PhiS := (sSeq (sAsg (pCall sp_l_of (pCons (pVar 3) (pCons (pLst (pCons (pC .none) (pCons (pC .none) (pCons (pC (.bool true)) (pCons (pC (.bool false)) (pCons (pC (.str "a")) (pCons (pC (.str "abcdefgh")) (pCons (pC (.int 1)) (pCons (pC (.str "")) pNil))))))))) pNil))) (.var 5))
    (sSeq (sAsg (pTup (pCons (pCall sp_l_day (pCons (pVar 3) pNil)) (pCons (pCall sp_l_of (pCons (pVar 3) (pCons (pVar 1) pNil))) (pCons (pVar 5) pNil)))) (.var 6))
    (sFor (iRange1 (pC (.int 3))) (.var 7) χ_law_0)))
def χ_law_2 : PhiS := (sSeq (sAsg (pCall sp_l_bag (pCons (pVar 0) (pCons (pVar 2) pNil))) (.var 3))
    (sFor (iRange1 (pC (.int 4))) (.var 4) χ_law_1))
def ψ_law : PhiS := (sSeq (sAsg (pLst (pCons (pC (.str "act")) (pCons (pC (.str "allow")) (pCons (pC (.str "grant")) (pCons (pC (.str "reply")) (pCons (pC (.str "appeal")) (pCons (pC (.str "pay")) (pCons (pC (.str "drop")) (pCons (pC (.str "fee")) (pCons (pC (.str "revive")) (pCons (pC (.str "give")) pNil))))))))))) (.var 1))
    (sSeq (sAsg (pBin addD (pPeek 1) (pLst (pCons (pC (.str "owner")) (pCons (pC (.str "tie")) (pCons (pC (.str "judged")) pNil))))) (.var 1))
    (sSeq (sFor (iRange1 (pBin addD (pCB min2D (pCons (pCB lenD (pCons (pPeek 0) pNil)) (pCons (pC (.int 14)) pNil))) (pC (.int 2)))) (.var 2) χ_law_2)
    (sRet (pAndV (pBin isBD (pCall sp_is_paper (pCons (pC .none) pNil)) (pC (.bool false))) (pBin isBD (pCall sp_is_paper (pCons (pTup (pCons (pC (.int 0)) (pCons (pC (.str "act")) (pCons (pC .none) pNil)))) pNil)) (pC (.bool true))))))))

def wl13 : List PD := [.str "act", .str "allow", .str "grant", .str "reply", .str "appeal", .str "pay", .str "drop", .str "fee", .str "revive", .str "give", .str "owner", .str "tie", .str "judged"]
def isWd (w : Option W) : Prop := w = some (.own wl13) ∨ w = some (.val (.list wl13))
theorem one_ok {e0 e1 e2 e4 e5 e7 : Option W} {b m : Nat} {d : PD} {w : W} {D : DE} (hm : m < 100) (hd : OkS m d) (hw : Is w d) (k : ∀ d' w', OkS (m + 1) d' → Is w' d' → D.nx [e0, e1, e2, some (.bag b), e4, e5, some w', e7]) : χ_law_0 [e0, e1, e2, some (.bag b), e4, e5, some w, e7] D := by
  unfold χ_law_0
  rcases hw with rfl | ⟨ds, rfl, rfl⟩
  all_goals
    walk_at "sq"
    refine ⟨_, m, rfl, hd, ?_⟩
    walk_at "pw"
    refine ⟨_, m, rfl, hd, ?_⟩
    walk_at "pw"
    refine ⟨_, _, rfl, ?_⟩
    simp only [beq_self_eq_true]
    walk_at "pw"
    refine ⟨b, m, 2, _, rfl, by decide, hm, hd, fun d' w' h1 h2 => ?_⟩
    exact k _ _ h1 h2
theorem spoils_ok {e0 e1 e2 e4 e5 : Option W} {b : Nat} {D : DE} (k : ∀ w e7, D.nx [e0, e1, e2, some (.bag b), e4, e5, some w, e7]) : ∀ (ds : List PD) (m : Nat) (d : PD) (w : W) (e7 : Option W), m + ds.length < 100 → OkS m d → Is w d → forL (.var 7) χ_law_0 D ds [e0, e1, e2, some (.bag b), e4, e5, some w, e7]
  | [], m, d, w, e7, _, _, _ => k _ _
  | x :: ds, m, d, w, e7, hm, hd, hw => by
    simp only [List.length_cons] at hm
    simp only [forL]
    walk_at "pw"
    exact one_ok (by omega) hd hw fun d' w' h1 h2 => spoils_ok k ds (m + 1) d' w' _ (by omega) h1 h2
theorem turn_ok {e0 e1 e2 e4 e5 e6 e7 : Option W} {b : Nat} {D : DE} (hs : isWd e1) (k : ∀ e1 e5 e6 e7, isWd e1 → D.nx [e0, e1, e2, some (.bag b), e4, e5, e6, e7]) : χ_law_1 [e0, e1, e2, some (.bag b), e4, e5, e6, e7] D := by
  unfold χ_law_1
  rcases hs with rfl | rfl
  all_goals
    walk_at "sq"
    refine ⟨b, _, rfl, by simp, by simp, fun x hx => ?_⟩
    have ox : OkS 3 x := by
      simp only [List.mem_cons, List.not_mem_nil, or_false] at hx
      rcases hx with rfl | rfl | rfl | rfl | rfl | rfl | rfl | rfl
      · exact .none
      · exact .none
      · exact .bool _
      · exact .bool _
      · exact .str _ (by decide +kernel) (by decide +kernel)
      · exact .str _ (by decide +kernel) (by decide +kernel)
      · exact .int _
      · exact .str _ (by decide +kernel) (by decide +kernel)
    walk_at "pw"
    walk_at "sq"
    refine ⟨b, rfl, fun i i0 i1 => ?_⟩
    walk_at "pw"
    refine ⟨b, wl13, rfl, by decide, by decide, fun y hy => ?_⟩
    have oy : OkS 3 y := by
      simp only [wl13, List.mem_cons, List.not_mem_nil, or_false] at hy
      rcases hy with rfl | rfl | rfl | rfl | rfl | rfl | rfl | rfl | rfl | rfl | rfl | rfl | rfl <;> exact .str _ (by decide +kernel) (by decide +kernel)
    walk_at "pw"
    refine ⟨by decide, by decide, ?_⟩
    refine spoils_ok (fun w e7 => k _ _ _ _ (.inr rfl)) _ 3 _ _ _ (by decide) (.tuple [.int i, y, x] (Nat.le_refl 3) ?_) (.inl rfl)
    intro z hz
    simp only [List.mem_cons, List.not_mem_nil, or_false] at hz
    rcases hz with rfl | rfl | rfl
    · exact .int _
    · exact oy
    · exact ox
theorem turns_ok {e0 e2 : Option W} {b : Nat} {D : DE} (k : ∀ e1 e4 e5 e6 e7, isWd e1 → D.nx [e0, e1, e2, some (.bag b), e4, e5, e6, e7]) : ∀ (ds : List PD) (e1 e4 e5 e6 e7 : Option W), isWd e1 → forL (.var 4) χ_law_1 D ds [e0, e1, e2, some (.bag b), e4, e5, e6, e7]
  | [], e1, e4, e5, e6, e7, hs => k _ _ _ _ _ hs
  | x :: ds, e1, e4, e5, e6, e7, hs => by
    simp only [forL]
    walk_at "pw"
    exact turn_ok hs fun e1 e5 e6 e7 hx => turns_ok k ds _ _ _ _ _ hx
theorem ks_ok {ns : List Int} {D : DE} (k : ∀ e1 e2 e3 e4 e5 e6 e7, D.nx [some (.scr ns), e1, e2, e3, e4, e5, e6, e7]) : ∀ (n : Nat) (lo : Int) (e1 e2 e3 e4 e5 e6 e7 : Option W), 0 ≤ lo → lo + n < 1000 → isWd e1 → forL (.var 2) χ_law_2 D (rngL lo n) [some (.scr ns), e1, e2, e3, e4, e5, e6, e7]
  | 0, lo, _, _, _, _, _, _, _, _, _, _ => k _ _ _ _ _ _ _
  | n + 1, lo, e1, e2, e3, e4, e5, e6, e7, h0, h1, hs => by
    have ih := fun e1 e2 e3 e4 e5 e6 e7 hx => ks_ok k n (lo + 1) e1 e2 e3 e4 e5 e6 e7 (by omega) (by omega) hx
    have go : ∀ (D' : DE), (∀ e1 e2 e3 e4 e5 e6 e7, isWd e1 → D'.nx [some (.scr ns), e1, e2, e3, e4, e5, e6, e7]) → χ_law_2 [some (.scr ns), e1, some (.val (.int lo)), e3, e4, e5, e6, e7] D' := fun D' k' => by
      unfold χ_law_2
      walk_at "sq"
      refine ⟨ns, lo, rfl, h0, by omega, fun b => ?_⟩
      walk_at "pw"
      refine ⟨by decide, by decide, ?_⟩
      exact turns_ok (fun e1 e4 e5 e6 e7 hx => k' _ _ _ _ _ _ _ hx) _ _ _ _ _ _ hs
    rw [rngL_cons]
    simp only [forL]
    walk_at "pw"
    exact go _ ih
theorem body_law : ∀ ws P, sp_law ws P → ψ_law (env0 8 ws) (DE.ret P) := by
  rintro ws P ⟨ns, rfl, h0, h⟩
  unfold ψ_law
  walk_at "sq"
  walk_at "sq"
  walk_at "sq"
  refine ⟨by omega, by omega, ?_⟩
  refine ks_ok (fun e1 e2 e3 e4 e5 e6 e7 => ?_) _ 0 _ _ _ _ _ _ _ (by decide) (by omega) (.inl rfl)
  walk_at "pw"
  refine ⟨.none, 0, rfl, .none, ?_⟩
  rw [show isPaper .none = false from rfl]
  walk_at "pw"
  refine ⟨.tuple [.int 0, .str "act", .none], 3, rfl, .tuple _ (Nat.le_refl 3) ?_, ?_⟩
  · intro z hz
    simp only [List.mem_cons, List.not_mem_nil, or_false] at hz
    rcases hz with rfl | rfl | rfl
    · exact .int _
    · exact .str _ (by decide +kernel) (by decide +kernel)
    · exact .none
  rw [show isPaper (.tuple [.int 0, .str "act", .none]) = true by decide +kernel]
  walk_at "pw"
  exact h

end Pw
namespace Pw
open PySem PySem.Spec PyProof.Rows L2
/-! ### the text -/
def topS (i : Nat) : Stmt := PySem.Challenge.pw_rightspan_k06_what_are_papers.main.body.getD i (.Pass ⟨0, 0, 0, 0⟩)
abbrev s_is_from : Stmt := topS 2
abbrev N_is_from : List Str := ["thing", "low", "high"]
theorem sc_is_from : FnScope N_is_from ["thing", "low", "high"] (defScope s_is_from) := ⟨rfl, rfl, rfl, by decide +kernel, rfl, by decide +kernel, by decide +kernel⟩
abbrev s_is_day : Stmt := topS 3
abbrev N_is_day : List Str := ["thing"]
theorem sc_is_day : FnScope N_is_day ["thing"] (defScope s_is_day) := ⟨rfl, rfl, rfl, by decide +kernel, rfl, by decide +kernel, by decide +kernel⟩
abbrev s_is_name : Stmt := topS 6
abbrev N_is_name : List Str := ["thing", "sign"]
theorem sc_is_name : FnScope N_is_name ["thing"] (defScope s_is_name) := ⟨rfl, rfl, rfl, by decide +kernel, rfl, by decide +kernel, by decide +kernel⟩
abbrev s_is_paper : Stmt := topS 7
abbrev N_is_paper : List Str := ["thing", "day", "word", "more"]
theorem sc_is_paper : FnScope N_is_paper ["thing"] (defScope s_is_paper) := ⟨rfl, rfl, rfl, by decide +kernel, rfl, by decide +kernel, by decide +kernel⟩
abbrev s_l_bag : Stmt := topS 9
theorem sc_l_bag : FnScope nBag ["_law_script", "_law_k"] (defScope s_l_bag) := ⟨rfl, rfl, rfl, by decide +kernel, rfl, by decide +kernel, by decide +kernel⟩
abbrev s_l_take : Stmt := topS 10
theorem sc_l_take : FnScope nTake ["_law_bag_here", "_law_count"] (defScope s_l_take) := ⟨rfl, rfl, rfl, by decide +kernel, rfl, by decide +kernel, by decide +kernel⟩
abbrev s_l_of : Stmt := topS 11
abbrev N_l_of : List Str := ["_law_bag_here", "_law_some"]
theorem sc_l_of : FnScope N_l_of ["_law_bag_here", "_law_some"] (defScope s_l_of) := ⟨rfl, rfl, rfl, by decide +kernel, rfl, by decide +kernel, by decide +kernel⟩
abbrev s_l_same : Stmt := topS 12
abbrev N_l_same : List Str := ["_law_one", "_law_other"]
theorem sc_l_same : FnScope N_l_same ["_law_one", "_law_other"] (defScope s_l_same) := ⟨rfl, rfl, rfl, by decide +kernel, rfl, by decide +kernel, by decide +kernel⟩
abbrev s_l_day : Stmt := topS 13
abbrev N_l_day : List Str := ["_law_bag_here"]
theorem sc_l_day : FnScope N_l_day ["_law_bag_here"] (defScope s_l_day) := ⟨rfl, rfl, rfl, by decide +kernel, rfl, by decide +kernel, by decide +kernel⟩
abbrev s_l_odd : Stmt := topS 17
abbrev N_l_odd : List Str := ["_law_bag_here", "_law_some"]
theorem sc_l_odd : FnScope N_l_odd ["_law_bag_here"] (defScope s_l_odd) := ⟨rfl, rfl, rfl, by decide +kernel, rfl, by decide +kernel, by decide +kernel⟩
abbrev s_l_spoilt : Stmt := topS 18
abbrev N_l_spoilt : List Str := ["_law_bag_here", "_law_thing", "_law_deep", "_law_rows", "_law_at", "_law_way"]
theorem sc_l_spoilt : FnScope N_l_spoilt ["_law_bag_here", "_law_thing", "_law_deep"] (defScope s_l_spoilt) := ⟨rfl, rfl, rfl, by decide +kernel, rfl, by decide +kernel, by decide +kernel⟩
abbrev s_l_from : Stmt := topS 19
abbrev N_l_from : List Str := ["_law_thing", "_law_low", "_law_high"]
theorem sc_l_from : FnScope N_l_from ["_law_thing", "_law_low", "_law_high"] (defScope s_l_from) := ⟨rfl, rfl, rfl, by decide +kernel, rfl, by decide +kernel, by decide +kernel⟩
abbrev s_l_is_name : Stmt := topS 20
abbrev N_l_is_name : List Str := ["_law_thing", "_law_sign"]
theorem sc_l_is_name : FnScope N_l_is_name ["_law_thing"] (defScope s_l_is_name) := ⟨rfl, rfl, rfl, by decide +kernel, rfl, by decide +kernel, by decide +kernel⟩
abbrev s_l_is_paper : Stmt := topS 27
abbrev N_l_is_paper : List Str := ["_law_thing", "_law_some", "_law_word", "_law_more"]
theorem sc_l_is_paper : FnScope N_l_is_paper ["_law_thing"] (defScope s_l_is_paper) := ⟨rfl, rfl, rfl, by decide +kernel, rfl, by decide +kernel, by decide +kernel⟩
abbrev s_law : Stmt := topS 30
abbrev N_law : List Str := ["_law_script", "_law_words", "_law_k", "_law_bag_here", "_law_turn", "_law_more", "_law_thing", "_law_spoil"]
theorem sc_law : FnScope N_law ["_law_script"] (defScope s_law) := ⟨rfl, rfl, rfl, by decide +kernel, rfl, by decide +kernel, by decide +kernel⟩
/-! ### what the module holds -/
structure Txt (K : PySem.W.Frag) (mg : Str → Option Value) : Prop where
  m_all : mg "all" = none
  m_bool : mg "bool" = none
  m_int : mg "int" = none
  m_isinstance : mg "isinstance" = none
  m_len : mg "len" = none
  m_list : mg "list" = none
  m_min : mg "min" = none
  m_range : mg "range" = none
  m_str : mg "str" = none
  m_tuple : mg "tuple" = none
  k_LAST : Kst K mg "LAST" c_LAST
  k_PLAIN_WORDS : Kst K mg "PLAIN_WORDS" c_PLAIN_WORDS
section
variable {P : Program} {w : World} {K : PySem.W.Frag} {mg : Str → Option Value} {base : Heap}
theorem ok_is_from (T : Txt K mg) {f : Addr} {fd : FuncData} (F : Fun K "is_from" "is_from" s_is_from f fd) (hm : mg "is_from" = some (.ref f)) : Fact P w K mg base 1 "is_from" 3 sp_is_from := by
  refine ⟨f, fd, ["thing", "low", "high"], [], [], rfl, hm, F.kp, (F.binds (ps := ["thing", "low", "high"]) fun _ _ _ _ _ _ us hl => match us, hl with | [_, _, _], _ => rfl), fn_ok F sc_is_from len_is_from (fun cdv A outer s H E hr => ⟨ψ_is_from, ?_, body_is_from⟩)⟩
  have nd := sc_is_from.nd
  exact (rss_one (rs_ret (re_andV (RE.b (re_callB call_isi isiD_ok T.m_isinstance (by decide +kernel) (ra_cons (rp 0) (ra_cons (RE.b (re_ty T.m_int (by decide +kernel))) ra_nil)))) (re_andV (RE.b (re_notV (RE.b (re_callB call_isi isiD_ok T.m_isinstance (by decide +kernel) (ra_cons (rp 0) (ra_cons (RE.b (re_ty T.m_bool (by decide +kernel))) ra_nil)))))) (re_one (re_chain op_leA iiK iiP op_leA leD_ok (rp 1) (rp 0) (rp 2)))))))
theorem ok_is_day (T : Txt K mg) (D_is_from : Fact P w K mg base 1 "is_from" 3 sp_is_from) {f : Addr} {fd : FuncData} (F : Fun K "is_day" "is_day" s_is_day f fd) (hm : mg "is_day" = some (.ref f)) : Fact P w K mg base 2 "is_day" 1 sp_is_day := by
  refine ⟨f, fd, ["thing"], [], [], rfl, hm, F.kp, (F.binds (ps := ["thing"]) fun _ _ _ _ _ _ us hl => match us, hl with | [_], _ => rfl), fn_ok F sc_is_day len_is_day (fun cdv A outer s H E hr => ⟨ψ_is_day, ?_, body_is_day⟩)⟩
  have nd := sc_is_day.nd
  exact (rss_one (rs_ret (re_call D_is_from hr (ra_cons (RE.b (rv 0)) (ra_cons (RE.b re_int) (ra_cons (RE.b (re_glob T.k_LAST)) ra_nil))))))
theorem ok_is_name (T : Txt K mg) {f : Addr} {fd : FuncData} (F : Fun K "is_name" "is_name" s_is_name f fd) (hm : mg "is_name" = some (.ref f)) : Fact P w K mg base 1 "is_name" 1 sp_is_name := by
  refine ⟨f, fd, ["thing"], [], [], rfl, hm, F.kp, (F.binds (ps := ["thing"]) fun _ _ _ _ _ _ us hl => match us, hl with | [_], _ => rfl), fn_ok F sc_is_name len_is_name (fun cdv A outer s H E hr => ⟨ψ_is_name, ?_, body_is_name⟩)⟩
  have nd := sc_is_name.nd
  exact (rss_cons (rs_if (RTw.t (rw_or (rt_not (rt_tru (RE.b (re_callB call_isi isiD_ok T.m_isinstance (by decide +kernel) (ra_cons (rp 0) (ra_cons (RE.b (re_ty T.m_str (by decide +kernel))) ra_nil)))))) (rw_or1 (rt_not (rt_chain op_leA iiK iiP op_leA leD_ok (RE.b re_int) (RE.b (re_callB call_lenA lenD_ok T.m_len (by decide +kernel) (ra_cons (rp 0) ra_nil))) (RE.b re_int)))))) (rss_one (rs_ret re_bl)) rss_nil)
    (rss_one (rs_ret (re_callB (cr_all rfl) allD_ok T.m_all (by decide +kernel) (ra_cons (RE.b (re_comp (own := [("sign", 1)]) rfl nd (ri_val (rv 0)) (blkOk_by (own := [("sign", 1)]) (N := N_is_name) (sc := defScope s_is_name) (by decide +kernel)) (fun _ _ _ _ _ => (rg_var 1 nd)) (fun _ _ _ _ _ => rts_nil) (fun _ _ _ _ _ => (re_cmp op_in_sign inSD_ok (rp 1) (RE.b re_str))))) ra_nil)))))
theorem ok_is_paper (T : Txt K mg) (D_is_day : Fact P w K mg base 2 "is_day" 1 sp_is_day) (D_is_name : Fact P w K mg base 2 "is_name" 1 sp_is_name) {f : Addr} {fd : FuncData} (F : Fun K "is_paper" "is_paper" s_is_paper f fd) (hm : mg "is_paper" = some (.ref f)) : Fact P w K mg base 3 "is_paper" 1 sp_is_paper := by
  refine ⟨f, fd, ["thing"], [], [], rfl, hm, F.kp, (F.binds (ps := ["thing"]) fun _ _ _ _ _ _ us hl => match us, hl with | [_], _ => rfl), fn_ok F sc_is_paper len_is_paper (fun cdv A outer s H E hr => ⟨ψ_is_paper, ?_, body_is_paper⟩)⟩
  have nd := sc_is_paper.nd
  exact (rss_cons (rs_if (RTw.t (rw_or (rt_not (rt_tru (RE.b (re_callB call_isi isiD_ok T.m_isinstance (by decide +kernel) (ra_cons (rp 0) (ra_cons (RE.b (re_ty T.m_tuple (by decide +kernel))) ra_nil)))))) (rw_or (rt_cmp (op_neD hr.units) neD_ok (RE.b (re_callB call_lenA lenD_ok T.m_len (by decide +kernel) (ra_cons (rp 0) ra_nil))) (RE.b re_int)) (rw_or (rt_not (rt_tru (RE.b (re_call D_is_day hr (ra_cons (RE.b (re_ix (rp 0) (RE.b re_int))) ra_nil))))) (rw_or1 (rt_not (rt_tru (RE.b (re_callB call_isi isiD_ok T.m_isinstance (by decide +kernel) (ra_cons (RE.b (re_ix (rp 0) (RE.b re_int))) (ra_cons (RE.b (re_ty T.m_str (by decide +kernel))) ra_nil))))))))))) (rss_one (rs_ret re_bl)) rss_nil)
    (rss_cons (rs_asg (rg_tup rfl (rn_cons 1 nd (rn_cons 2 nd (rn_cons 3 nd rn_nil)))) (rv 0))
    (rss_cons (rs_if (rt_cmp op_in_seq inD_ok (rp 2) (RE.b (re_tup (ra_cons (RE.b re_str) (ra_cons (RE.b re_str) ra_nil))))) (rss_one (rs_ret (re_call D_is_name hr (ra_cons (RE.b (rv 3)) ra_nil)))) rss_nil)
    (rss_cons (rs_if (rt_cmp (op_eqD hr.units) eqD_ok (rp 2) (RE.b re_str)) (rss_one (rs_ret (re_callB call_isi isiD_ok T.m_isinstance (by decide +kernel) (ra_cons (rp 3) (ra_cons (RE.b (re_ty T.m_bool (by decide +kernel))) ra_nil))))) rss_nil)
    (rss_one (rs_ret (re_andV (RE.b (re_cmp op_in_seq inD_ok (rp 2) (RE.b (re_glob T.k_PLAIN_WORDS)))) (re_one (re_isN (rp 3))))))))))
theorem ok_l_bag (T : Txt K mg) {f : Addr} {fd : FuncData} (F : Fun K "_law_bag" "_law_bag" s_l_bag f fd) (hm : mg "_law_bag" = some (.ref f)) : Fact P w K mg base 1 "_law_bag" 2 spBag := by
  refine ⟨f, fd, ["_law_script", "_law_k"], [], [], rfl, hm, F.kp, (F.binds (ps := ["_law_script", "_law_k"]) fun _ _ _ _ _ _ us hl => match us, hl with | [_, _], _ => rfl), F.ok sc_l_bag (fun vs H Q E h => ?_) (fun cdv A outer s H vs Q E hr h => ⟨tBag K, ?_, pure_bag vs H Q E h⟩)⟩
  · obtain ⟨F, bs, ws, _, _, r, P, q, _⟩ := h
    obtain ⟨_, _, rfl, _⟩ := q
    exact r.len
  · exact pss_cons (ps_set (i := 2) sc_l_bag.nd rfl (.inl rfl) pe_int) (pss_cons (ps_if (pt_cmpR op_lt (pv 1) (pe_callB call_len (by rfl) T.m_len (by decide +kernel) (pa_cons (pv 0) pa_nil)) (nomark _)) (pss_one (ps_set (i := 2) sc_l_bag.nd rfl (.inl rfl) (pe_op op_mod (pe_ix ix_list (pv 0) (pv 1) (fun _ _ => rfl)) (pe_op op_pow pe_int pe_int)))) pss_nil)
      (pss_cons (ps_set (i := 3) sc_l_bag.nd rfl (.inl rfl) (pe_op op_add pe_int (pe_op op_mod (pe_op op_add (pe_op op_add (pe_op op_add (pe_op op_mul (pe_op op_mod (pv 2) pe_int) pe_int) (pe_op op_mul (pe_op op_mul pe_int (pv 1)) (pv 1))) (pe_op op_mul pe_int (pv 1))) pe_int) pe_int)))
      (pss_cons (ps_if (pt_cmpR op_lt (pv 2) (pe_op op_pow pe_int pe_int) (nomark _)) (pss_one (ps_ret (pe_lst (pa_cons pe_int (pa_cons (pv 3) pa_nil))))) pss_nil)
      (pss_one (ps_ret (pe_lst (pa_cons (pv 2) (pa_cons (pv 3) pa_nil))))))))
theorem ok_l_take (T : Txt K mg) {f : Addr} {fd : FuncData} (F : Fun K "_law_take" "_law_take" s_l_take f fd) (hm : mg "_law_take" = some (.ref f)) : Fact P w K mg base 1 "_law_take" 2 spTake := by
  refine ⟨f, fd, ["_law_bag_here", "_law_count"], [], [], rfl, hm, F.kp, (F.binds (ps := ["_law_bag_here", "_law_count"]) fun _ _ _ _ _ _ us hl => match us, hl with | [_, _], _ => rfl), F.ok sc_l_take (fun vs H Q E h => ?_) (fun cdv A outer s H vs Q E hr h => ⟨tTake K, ?_, pure_take vs H Q E h⟩)⟩
  · obtain ⟨F, bs, ws, _, _, r, P, q, _⟩ := h
    obtain ⟨_, _, rfl, _⟩ := q
    exact r.len
  · exact pss_cons (ps_if (pt_cmpR op_gt (pe_ix ix_list (pv 0) pe_int (fun _ _ => rfl)) pe_int (nomark _)) (pss_cons (ps_set (i := 2) sc_l_take.nd rfl (.inl rfl) (pe_op op_mod (pe_ix ix_list (pv 0) pe_int (fun _ _ => rfl)) (pv 1))) (pss_cons (ps_asg (pe_op op_fdiv (pe_ix ix_list (pv 0) pe_int (fun _ _ => rfl)) (pv 1)) (pg_sub (pv 0) pe_int set_list)) (pss_one (ps_ret (pv 2))))) pss_nil)
      (pss_cons (ps_asg (pe_op op_mod (pe_op op_mul (pe_ix ix_list (pv 0) pe_int (fun _ _ => rfl)) pe_int) pe_int) (pg_sub (pv 0) pe_int set_list))
      (pss_one (ps_ret (pe_op op_mod (pe_op op_fdiv (pe_op op_mod (pe_op op_mul (pe_op op_fdiv (pe_ix ix_list (pv 0) pe_int (fun _ _ => rfl)) pe_int) (pe_op op_add (pe_op op_mod (pe_ix ix_list (pv 0) pe_int (fun _ _ => rfl)) pe_int) pe_int)) pe_int) pe_int) (pv 1)))))
theorem ok_l_of (T : Txt K mg) (D_l_take : Fact P w K mg base 1 "_law_take" 2 sp_l_take) {f : Addr} {fd : FuncData} (F : Fun K "_law_of" "_law_of" s_l_of f fd) (hm : mg "_law_of" = some (.ref f)) : Fact P w K mg base 2 "_law_of" 2 sp_l_of := by
  refine ⟨f, fd, ["_law_bag_here", "_law_some"], [], [], rfl, hm, F.kp, (F.binds (ps := ["_law_bag_here", "_law_some"]) fun _ _ _ _ _ _ us hl => match us, hl with | [_, _], _ => rfl), fn_ok F sc_l_of len_l_of (fun cdv A outer s H E hr => ⟨ψ_l_of, ?_, body_l_of⟩)⟩
  have nd := sc_l_of.nd
  exact (rss_one (rs_ret (re_ix (rp 1) (RE.b (re_call D_l_take hr (ra_cons (RE.b (rv 0)) (ra_cons (RE.b (re_callB call_lenA lenD_ok T.m_len (by decide +kernel) (ra_cons (rp 1) ra_nil))) ra_nil)))))))
theorem ok_l_same (T : Txt K mg) {f : Addr} {fd : FuncData} (F : Fun K "_law_same" "_law_same" s_l_same f fd) (hm : mg "_law_same" = some (.ref f)) : Fact P w K mg base 1 "_law_same" 2 sp_l_same := by
  refine ⟨f, fd, ["_law_one", "_law_other"], [], [], rfl, hm, F.kp, (F.binds (ps := ["_law_one", "_law_other"]) fun _ _ _ _ _ _ us hl => match us, hl with | [_, _], _ => rfl), fn_ok F sc_l_same len_l_same (fun cdv A outer s H E hr => ⟨ψ_l_same, ?_, body_l_same⟩)⟩
  have nd := sc_l_same.nd
  exact (rss_one (rs_ret (re_andV (RE.b (re_callB call_isi isiD_ok T.m_isinstance (by decide +kernel) (ra_cons (rp 0) (ra_cons (RE.b (re_ty T.m_bool (by decide +kernel))) ra_nil)))) (re_one (re_cmp (op_eqD hr.units) eqD_ok (rp 0) (rp 1))))))
theorem ok_l_day (T : Txt K mg) (D_l_of : Fact P w K mg base 2 "_law_of" 2 sp_l_of) (D_l_take : Fact P w K mg base 2 "_law_take" 2 sp_l_take) {f : Addr} {fd : FuncData} (F : Fun K "_law_day" "_law_day" s_l_day f fd) (hm : mg "_law_day" = some (.ref f)) : Fact P w K mg base 3 "_law_day" 1 sp_l_day := by
  refine ⟨f, fd, ["_law_bag_here"], [], [], rfl, hm, F.kp, (F.binds (ps := ["_law_bag_here"]) fun _ _ _ _ _ _ us hl => match us, hl with | [_], _ => rfl), fn_ok F sc_l_day len_l_day (fun cdv A outer s H E hr => ⟨ψ_l_day, ?_, body_l_day⟩)⟩
  have nd := sc_l_day.nd
  exact (rss_one (rs_ret (re_call D_l_of hr (ra_cons (RE.b (rv 0)) (ra_cons (RE.b (re_lst (ra_cons (RE.b (re_bin op_addA addD_ok (RE.b re_int) (RE.b (re_call D_l_take hr (ra_cons (RE.b (rv 0)) (ra_cons (RE.b re_int) ra_nil)))))) (ra_cons (RE.b (re_bin op_addA addD_ok (RE.b re_int) (RE.b (re_call D_l_take hr (ra_cons (RE.b (rv 0)) (ra_cons (RE.b re_int) ra_nil)))))) (ra_cons (RE.b re_int) (ra_cons (RE.b re_int) (ra_cons (RE.b (re_call D_l_take hr (ra_cons (RE.b (rv 0)) (ra_cons (RE.b re_int) ra_nil)))) ra_nil))))))) ra_nil)))))
theorem ok_l_odd (T : Txt K mg) (D_l_of : Fact P w K mg base 2 "_law_of" 2 sp_l_of) {f : Addr} {fd : FuncData} (F : Fun K "_law_odd" "_law_odd" s_l_odd f fd) (hm : mg "_law_odd" = some (.ref f)) : Fact P w K mg base 3 "_law_odd" 1 sp_l_odd := by
  refine ⟨f, fd, ["_law_bag_here"], [], [], rfl, hm, F.kp, (F.binds (ps := ["_law_bag_here"]) fun _ _ _ _ _ _ us hl => match us, hl with | [_], _ => rfl), fn_ok F sc_l_odd len_l_odd (fun cdv A outer s H E hr => ⟨ψ_l_odd, ?_, body_l_odd⟩)⟩
  have nd := sc_l_odd.nd
  exact (rss_cons (rs_set 1 nd (re_lst (ra_cons (RE.b re_non) (ra_cons (RE.b re_bl) (ra_cons (RE.b re_bl) (ra_cons (RE.b re_int) (ra_cons (RE.b re_int) (ra_cons (RE.b (re_neg (RE.b re_int))) (ra_cons (RE.b re_int) (ra_cons (RE.b (re_bin op_pow powD_ok (RE.b re_int) (RE.b re_int))) (ra_cons (RE.b re_str) (ra_cons (RE.b re_str) (ra_cons (RE.b re_str) (ra_cons (RE.b re_str) (ra_cons (RE.b re_str) (ra_cons (RE.b (re_tup ra_nil)) (ra_cons (RE.b (re_lst ra_nil)) (ra_cons (RE.b (re_tup (ra_cons (RE.b re_int) ra_nil))) (ra_cons (RE.b (re_lst (ra_cons (RE.b re_str) ra_nil))) (ra_cons (RE.b (re_lst (ra_cons (RE.b (re_lst ra_nil)) ra_nil))) ra_nil))))))))))))))))))))
    (rss_one (rs_ret (re_call D_l_of hr (ra_cons (RE.b (rv 0)) (ra_cons (RE.b (re_bin op_addA addD_ok (rp 1) (RE.b (re_lst (ra_cons (RE.b re_str) (ra_cons (RE.b re_str) (ra_cons (RE.b re_str) (ra_cons (RE.b re_str) (ra_cons (RE.b re_str) (ra_cons (RE.b re_str) (ra_cons (RE.b re_int) (ra_cons (RE.b re_int) (ra_cons (RE.b re_int) (ra_cons (RE.b re_int) ra_nil)))))))))))))) ra_nil))))))
theorem ok_l_spoilt (T : Txt K mg) (D_l_take : Fact P w K mg base 3 "_law_take" 2 sp_l_take) (D_l_odd : Fact P w K mg base 3 "_law_odd" 1 sp_l_odd) {f : Addr} {fd : FuncData} (F : Fun K "_law_spoilt" "_law_spoilt" s_l_spoilt f fd) (hm : mg "_law_spoilt" = some (.ref f)) : ∀ n, Fact P w K mg base (3 + n) "_law_spoilt" 3 (spn_l_spoilt n)
  | 0 => ⟨f, fd, ["_law_bag_here", "_law_thing", "_law_deep"], [], [], rfl, hm, F.kp, (F.binds (ps := ["_law_bag_here", "_law_thing", "_law_deep"]) fun _ _ _ _ _ _ us hl => match us, hl with | [_, _, _], _ => rfl), fn_none nil_l_spoilt⟩
  | n + 1 => by
    have D_self := ok_l_spoilt T D_l_take D_l_odd F hm n
    have D_l_take := Fact.mono D_l_take (Nat.le_add_right _ n)
    have D_l_odd := Fact.mono D_l_odd (Nat.le_add_right _ n)
    refine ⟨f, fd, ["_law_bag_here", "_law_thing", "_law_deep"], [], [], rfl, hm, F.kp, (F.binds (ps := ["_law_bag_here", "_law_thing", "_law_deep"]) fun _ _ _ _ _ _ us hl => match us, hl with | [_, _, _], _ => rfl), fn_ok F sc_l_spoilt (len_l_spoilt (n + 1)) (fun cdv A outer s H E hr => ⟨ψ_l_spoilt (spn_l_spoilt n), ?_, body_l_spoilt n⟩)⟩
    have nd := sc_l_spoilt.nd
    exact (rss_cons (rs_if (RTw.t (rw_or (rt_not (rt_tru (RE.b (re_isT T.m_isinstance (rp 1) (ra_cons (RE.b (re_ty T.m_tuple (by decide +kernel))) (ra_cons (RE.b (re_ty T.m_list (by decide +kernel))) ra_nil)))))) (rw_or (rt_cmp (op_eqD hr.units) eqD_ok (RE.b (re_callB call_lenA lenD_ok T.m_len (by decide +kernel) (ra_cons (rp 1) ra_nil))) (RE.b re_int)) (rw_or (rt_cmp (op_eqD hr.units) eqD_ok (rp 2) (RE.b re_int)) (rw_or1 (rt_cmp (op_eqD hr.units) eqD_ok (RE.b (re_call D_l_take hr (ra_cons (RE.b (rv 0)) (ra_cons (RE.b re_int) ra_nil)))) (RE.b re_int))))))) (rss_one (rs_ret (re_call D_l_odd hr (ra_cons (RE.b (rv 0)) ra_nil)))) rss_nil)
    (rss_cons (rs_set 3 nd (re_callTy call_listA listD_ok T.m_list (by decide +kernel) (ra_cons (rp 1) ra_nil)))
    (rss_cons (rs_set 4 nd (re_call D_l_take hr (ra_cons (RE.b (rv 0)) (ra_cons (RE.b (re_callB call_lenA lenD_ok T.m_len (by decide +kernel) (ra_cons (rp 3) ra_nil))) ra_nil))))
    (rss_cons (rs_set 5 nd (re_call D_l_take hr (ra_cons (RE.b (rv 0)) (ra_cons (RE.b re_int) ra_nil))))
    (rss_cons (rs_if (rt_cmp (op_eqD hr.units) eqD_ok (rp 5) (RE.b re_int)) (rss_one (rs_set 3 nd (re_bin op_addA addD_ok (RE.b (re_sl (rp 3) ro_none (ro_some (rp 4)))) (RE.b (re_sl (rp 3) (ro_some (RE.b (re_bin op_addA addD_ok (rp 4) (RE.b re_int)))) ro_none))))) (rss_one (rs_if (rt_cmp (op_eqD hr.units) eqD_ok (rp 5) (RE.b re_int)) (rss_one (rs_set 3 nd (re_bin op_addA addD_ok (RE.b (re_sl (rp 3) ro_none (ro_some (RE.b (re_bin op_addA addD_ok (rp 4) (RE.b re_int)))))) (RE.b (re_sl (rp 3) (ro_some (rp 4)) ro_none))))) (rss_one (rs_if (rt_cmp (op_eqD hr.units) eqD_ok (rp 5) (RE.b re_int)) (rss_one (rs_ret (re_if (rt_tru (RE.b (re_callB call_isi isiD_ok T.m_isinstance (by decide +kernel) (ra_cons (rp 1) (ra_cons (RE.b (re_ty T.m_tuple (by decide +kernel))) ra_nil))))) (re_callTy call_listA listD_ok T.m_list (by decide +kernel) (ra_cons (rp 3) ra_nil)) (re_callTy call_tupA tupleD_ok T.m_tuple (by decide +kernel) (ra_cons (rp 3) ra_nil))))) (rss_one (rs_if (rt_cmp (op_eqD hr.units) eqD_ok (rp 5) (RE.b re_int)) (rss_one (rs_set 3 nd (re_bin op_addA addD_ok (RE.b (re_bin op_addA addD_ok (RE.b (re_sl (rp 3) ro_none (ro_some (rp 4)))) (RE.b (re_rev (RE.b (re_sl (rp 3) (ro_some (rp 4)) (ro_some (RE.b (re_bin op_addA addD_ok (rp 4) (RE.b re_int)))))))))) (RE.b (re_sl (rp 3) (ro_some (RE.b (re_bin op_addA addD_ok (rp 4) (RE.b re_int)))) ro_none))))) (rss_one (rs_put 3 (re_call D_self hr (ra_cons (RE.b (rv 0)) (ra_cons (RE.b (re_ix (rp 3) (rp 4))) (ra_cons (RE.b (re_bin op_subA subD_ok (rp 2) (RE.b re_int))) ra_nil)))) (rp 4))))))))))
    (rss_one (rs_ret (re_if (rt_tru (RE.b (re_callB call_isi isiD_ok T.m_isinstance (by decide +kernel) (ra_cons (rp 1) (ra_cons (RE.b (re_ty T.m_tuple (by decide +kernel))) ra_nil))))) (re_callTy call_tupA tupleD_ok T.m_tuple (by decide +kernel) (ra_cons (rp 3) ra_nil)) (rv 3)))))))))
theorem ok_l_from (T : Txt K mg) {f : Addr} {fd : FuncData} (F : Fun K "_law_from" "_law_from" s_l_from f fd) (hm : mg "_law_from" = some (.ref f)) : Fact P w K mg base 1 "_law_from" 3 sp_l_from := by
  refine ⟨f, fd, ["_law_thing", "_law_low", "_law_high"], [], [], rfl, hm, F.kp, (F.binds (ps := ["_law_thing", "_law_low", "_law_high"]) fun _ _ _ _ _ _ us hl => match us, hl with | [_, _, _], _ => rfl), fn_ok F sc_l_from len_l_from (fun cdv A outer s H E hr => ⟨ψ_l_from, ?_, body_l_from⟩)⟩
  have nd := sc_l_from.nd
  exact (rss_one (rs_ret (re_andV (RE.b (re_callB call_isi isiD_ok T.m_isinstance (by decide +kernel) (ra_cons (rp 0) (ra_cons (RE.b (re_ty T.m_int (by decide +kernel))) ra_nil)))) (re_andV (RE.b (re_notV (RE.b (re_callB call_isi isiD_ok T.m_isinstance (by decide +kernel) (ra_cons (rp 0) (ra_cons (RE.b (re_ty T.m_bool (by decide +kernel))) ra_nil)))))) (re_one (re_chain op_leA iiK iiP op_leA leD_ok (rp 1) (rp 0) (rp 2)))))))
theorem ok_l_is_name (T : Txt K mg) {f : Addr} {fd : FuncData} (F : Fun K "_law_is_name" "_law_is_name" s_l_is_name f fd) (hm : mg "_law_is_name" = some (.ref f)) : Fact P w K mg base 1 "_law_is_name" 1 sp_l_is_name := by
  refine ⟨f, fd, ["_law_thing"], [], [], rfl, hm, F.kp, (F.binds (ps := ["_law_thing"]) fun _ _ _ _ _ _ us hl => match us, hl with | [_], _ => rfl), fn_ok F sc_l_is_name len_l_is_name (fun cdv A outer s H E hr => ⟨ψ_l_is_name, ?_, body_l_is_name⟩)⟩
  have nd := sc_l_is_name.nd
  exact (rss_cons (rs_if (RTw.t (rw_or (rt_not (rt_tru (RE.b (re_callB call_isi isiD_ok T.m_isinstance (by decide +kernel) (ra_cons (rp 0) (ra_cons (RE.b (re_ty T.m_str (by decide +kernel))) ra_nil)))))) (rw_or1 (rt_not (rt_chain op_leA iiK iiP op_leA leD_ok (RE.b re_int) (RE.b (re_callB call_lenA lenD_ok T.m_len (by decide +kernel) (ra_cons (rp 0) ra_nil))) (RE.b re_int)))))) (rss_one (rs_ret re_bl)) rss_nil)
    (rss_one (rs_ret (re_cmp (op_eqD hr.units) eqD_ok (RE.b (re_comp (own := [("_law_sign", 1)]) rfl nd (ri_val (rv 0)) (blkOk_by (own := [("_law_sign", 1)]) (N := N_l_is_name) (sc := defScope s_l_is_name) (by decide +kernel)) (fun _ _ _ _ _ => (rg_var 1 nd)) (fun _ _ _ _ _ => rts_one (rt_cmp op_notIn_sign ninSD_ok (rp 1) (RE.b re_str))) (fun _ _ _ _ _ => (rv 1)))) (RE.b (re_lst ra_nil))))))
theorem ok_l_is_paper (T : Txt K mg) (D_l_from : Fact P w K mg base 1 "_law_from" 3 sp_l_from) (D_l_is_name : Fact P w K mg base 1 "_law_is_name" 1 sp_l_is_name) {f : Addr} {fd : FuncData} (F : Fun K "_law_is_paper" "_law_is_paper" s_l_is_paper f fd) (hm : mg "_law_is_paper" = some (.ref f)) : Fact P w K mg base 2 "_law_is_paper" 1 sp_l_is_paper := by
  refine ⟨f, fd, ["_law_thing"], [], [], rfl, hm, F.kp, (F.binds (ps := ["_law_thing"]) fun _ _ _ _ _ _ us hl => match us, hl with | [_], _ => rfl), fn_ok F sc_l_is_paper len_l_is_paper (fun cdv A outer s H E hr => ⟨ψ_l_is_paper, ?_, body_l_is_paper⟩)⟩
  have nd := sc_l_is_paper.nd
  exact (rss_cons (rs_if (RTw.t (rw_or (rt_not (rt_tru (RE.b (re_callB call_isi isiD_ok T.m_isinstance (by decide +kernel) (ra_cons (rp 0) (ra_cons (RE.b (re_ty T.m_tuple (by decide +kernel))) ra_nil)))))) (rw_or (rt_cmp (op_neD hr.units) neD_ok (RE.b (re_callB call_lenA lenD_ok T.m_len (by decide +kernel) (ra_cons (rp 0) ra_nil))) (RE.b re_int)) (rw_or1 (rt_not (rt_tru (RE.b (re_call D_l_from hr (ra_cons (RE.b (re_ix (rp 0) (RE.b re_int))) (ra_cons (RE.b re_int) (ra_cons (RE.b re_int) ra_nil))))))))))) (rss_one (rs_ret re_bl)) rss_nil)
    (rss_cons (rs_par2 2 3 rfl nd (re_ix (rp 0) (RE.b re_int)) (re_ix (rp 0) (RE.b re_int)))
    (rss_cons (rs_if (rt_not (rt_tru (RE.b (re_callB call_isi isiD_ok T.m_isinstance (by decide +kernel) (ra_cons (rp 2) (ra_cons (RE.b (re_ty T.m_str (by decide +kernel))) ra_nil)))))) (rss_one (rs_ret re_bl)) rss_nil)
    (rss_cons (rs_if (rt_cmp op_in_seq inD_ok (rp 2) (RE.b (re_lst (ra_cons (RE.b re_str) (ra_cons (RE.b re_str) ra_nil))))) (rss_one (rs_ret (re_call D_l_is_name hr (ra_cons (RE.b (rv 3)) ra_nil)))) rss_nil)
    (rss_cons (rs_if (rt_cmp (op_eqD hr.units) eqD_ok (rp 2) (RE.b re_str)) (rss_one (rs_ret (re_callB call_isi isiD_ok T.m_isinstance (by decide +kernel) (ra_cons (rp 3) (ra_cons (RE.b (re_ty T.m_bool (by decide +kernel))) ra_nil))))) rss_nil)
    (rss_cons (rs_set 1 nd (re_lst (ra_cons (RE.b re_str) (ra_cons (RE.b re_str) (ra_cons (RE.b re_str) (ra_cons (RE.b re_str) (ra_cons (RE.b re_str) (ra_cons (RE.b re_str) (ra_cons (RE.b re_str) (ra_cons (RE.b re_str) (ra_cons (RE.b re_str) (ra_cons (RE.b re_str) ra_nil))))))))))))
    (rss_one (rs_ret (re_andV (RE.b (re_cmp op_in_seq inD_ok (rp 2) (rp 1))) (re_one (re_isN (rp 3))))))))))))
theorem ok_law (T : Txt K mg) (D_l_bag : Fact P w K mg base 7 "_law_bag" 2 sp_l_bag) (D_l_of : Fact P w K mg base 7 "_law_of" 2 sp_l_of) (D_l_day : Fact P w K mg base 7 "_law_day" 1 sp_l_day) (D_l_same : Fact P w K mg base 7 "_law_same" 2 sp_l_same) (D_l_is_paper : Fact P w K mg base 7 "_law_is_paper" 1 sp_l_is_paper) (D_is_paper : Fact P w K mg base 7 "is_paper" 1 sp_is_paper) (D_l_spoilt : Fact P w K mg base 7 "_law_spoilt" 3 sp_l_spoilt) {f : Addr} {fd : FuncData} (F : Fun K "law" "law" s_law f fd) : FnOk P w K mg base CX0 8 f fd ["_law_script"] (spOf K sp_law) := by
  refine fn_ok F sc_law len_law (fun cdv A outer s H E hr => ⟨ψ_law, ?_, body_law⟩)
  have nd := sc_law.nd
  exact (rss_cons (rs_set 1 nd (re_lst (ra_cons (RE.b re_str) (ra_cons (RE.b re_str) (ra_cons (RE.b re_str) (ra_cons (RE.b re_str) (ra_cons (RE.b re_str) (ra_cons (RE.b re_str) (ra_cons (RE.b re_str) (ra_cons (RE.b re_str) (ra_cons (RE.b re_str) (ra_cons (RE.b re_str) ra_nil))))))))))))
    (rss_cons (rs_set 1 nd (re_bin op_addA addD_ok (rp 1) (RE.b (re_lst (ra_cons (RE.b re_str) (ra_cons (RE.b re_str) (ra_cons (RE.b re_str) ra_nil)))))))
    (rss_cons (rs_for rfl rfl (ri_range1 (RE.b (re_bin op_addA addD_ok (RE.b (re_callB (call_minA rfl) min2D_ok T.m_min (by decide +kernel) (ra_cons (RE.b (re_callB call_lenA lenD_ok T.m_len (by decide +kernel) (ra_cons (rp 0) ra_nil))) (ra_cons (RE.b re_int) ra_nil)))) (RE.b re_int))) T.m_range) (rg_var 2 nd) (rss_cons (rs_set 3 nd (re_call D_l_bag hr (ra_cons (RE.b (rv 0)) (ra_cons (RE.b (rv 2)) ra_nil))))
    (rss_one (rs_for rfl rfl (ri_range1 (RE.b re_int) T.m_range) (rg_var 4 nd) (rss_cons (rs_set 5 nd (re_call D_l_of hr (ra_cons (RE.b (rv 3)) (ra_cons (RE.b (re_lst (ra_cons (RE.b re_non) (ra_cons (RE.b re_non) (ra_cons (RE.b re_bl) (ra_cons (RE.b re_bl) (ra_cons (RE.b re_str) (ra_cons (RE.b re_str) (ra_cons (RE.b re_int) (ra_cons (RE.b re_str) ra_nil)))))))))) ra_nil))))
    (rss_cons (rs_set 6 nd (re_tup (ra_cons (RE.b (re_call D_l_day hr (ra_cons (RE.b (rv 3)) ra_nil))) (ra_cons (RE.b (re_call D_l_of hr (ra_cons (RE.b (rv 3)) (ra_cons (RE.b (rv 1)) ra_nil)))) (ra_cons (RE.b (rv 5)) ra_nil)))))
    (rss_one (rs_for rfl rfl (ri_range1 (RE.b re_int) T.m_range) (rg_var 7 nd) (rss_cons (rs_if (rt_not (rt_tru (RE.b (re_call D_l_same hr (ra_cons (RE.b (re_call D_is_paper hr (ra_cons (RE.b (rv 6)) ra_nil))) (ra_cons (RE.b (re_call D_l_is_paper hr (ra_cons (RE.b (rv 6)) ra_nil))) ra_nil)))))) (rss_one (rs_ret re_bl)) rss_nil)
    (rss_one (rs_set 6 nd (re_call D_l_spoilt hr (ra_cons (RE.b (rv 3)) (ra_cons (RE.b (rv 6)) (ra_cons (RE.b re_int) ra_nil)))))))))))))))
    (rss_one (rs_ret (re_andV (RE.b (re_cmp op_isBl isBD_ok (RE.b (re_call D_is_paper hr (ra_cons (RE.b re_non) ra_nil))) (RE.b re_bl))) (re_one (re_cmp op_isBl isBD_ok (RE.b (re_call D_is_paper hr (ra_cons (RE.b (re_tup (ra_cons (RE.b re_int) (ra_cons (RE.b re_str) (ra_cons (RE.b re_non) ra_nil))))) ra_nil))) (RE.b re_bl)))))))))
end
/-! ### the end -/
theorem all_mk {l : PySem.W.OpenLaw} {w : World} {K : PySem.W.Frag} {h : Heap} {mg : Str → Option Value} {fa : Addr} (X : K.In h) (G : h.Ns mainGlobals mg) (hfa : mg "law" = some (.ref fa))
    {f0 f1 f2 f3 f4 f5 f6 f7 f8 f9 f10 f11 f12 f13 f14 : Addr} {od0 an0 od1 an1 od2 an2 od3 an3 od4 an4 od5 an5 od6 an6 od7 an7 od8 an8 od9 an9 od10 an10 od11 an11 od12 an12 od13 an13 od14 an14 : Option Addr} {sl0 sl1 sl2 sl3 sl4 sl5 sl6 sl7 sl8 sl9 sl10 sl11 sl12 sl13 sl14 : Array (Option Value)} {oc0 kV0 dc0 pm0 cd0 ct0 oc1 kV1 dc1 pm1 cd1 ct1 oc2 kV2 dc2 pm2 cd2 ct2 oc3 kV3 dc3 pm3 cd3 ct3 oc4 kV4 dc4 pm4 cd4 ct4 oc5 kV5 dc5 pm5 cd5 ct5 oc6 kV6 dc6 pm6 cd6 ct6 oc7 kV7 dc7 pm7 cd7 ct7 oc8 kV8 dc8 pm8 cd8 ct8 oc9 kV9 dc9 pm9 cd9 ct9 oc10 kV10 dc10 pm10 cd10 ct10 oc11 kV11 dc11 pm11 cd11 ct11 oc12 kV12 dc12 pm12 cd12 ct12 oc13 kV13 dc13 pm13 cd13 ct13 oc14 kV14 dc14 pm14 cd14 ct14 : Value}
    {gv_LAST : Value} {g_PLAIN_WORDS : Addr} {gd_PLAIN_WORDS : Option Addr} {gi_PLAIN_WORDS : Array Value} {gn_PLAIN_WORDS : Nat} {gs_PLAIN_WORDS : Array (Option Value)}
    (a0 : PySem.W.nsIn K mainGlobals "is_from" = some (some (.ref f0)))
    (l0 : K.lookup f0 = some ⟨oc0, od0, .func (PySem.W.fnOf "is_from" "is_from" (defArgs s_is_from) (defBody s_is_from) (defScope s_is_from) .none kV0 dc0 pm0 an0 cd0 ct0), sl0⟩)
    (c0 : PySem.W.codeIn K cd0 "is_from" = true)
    (k0 : PySem.W.keepIn K (.ref f0) = true)
    (a1 : PySem.W.nsIn K mainGlobals "is_day" = some (some (.ref f1)))
    (l1 : K.lookup f1 = some ⟨oc1, od1, .func (PySem.W.fnOf "is_day" "is_day" (defArgs s_is_day) (defBody s_is_day) (defScope s_is_day) .none kV1 dc1 pm1 an1 cd1 ct1), sl1⟩)
    (c1 : PySem.W.codeIn K cd1 "is_day" = true)
    (k1 : PySem.W.keepIn K (.ref f1) = true)
    (a2 : PySem.W.nsIn K mainGlobals "is_name" = some (some (.ref f2)))
    (l2 : K.lookup f2 = some ⟨oc2, od2, .func (PySem.W.fnOf "is_name" "is_name" (defArgs s_is_name) (defBody s_is_name) (defScope s_is_name) .none kV2 dc2 pm2 an2 cd2 ct2), sl2⟩)
    (c2 : PySem.W.codeIn K cd2 "is_name" = true)
    (k2 : PySem.W.keepIn K (.ref f2) = true)
    (a3 : PySem.W.nsIn K mainGlobals "is_paper" = some (some (.ref f3)))
    (l3 : K.lookup f3 = some ⟨oc3, od3, .func (PySem.W.fnOf "is_paper" "is_paper" (defArgs s_is_paper) (defBody s_is_paper) (defScope s_is_paper) .none kV3 dc3 pm3 an3 cd3 ct3), sl3⟩)
    (c3 : PySem.W.codeIn K cd3 "is_paper" = true)
    (k3 : PySem.W.keepIn K (.ref f3) = true)
    (a4 : PySem.W.nsIn K mainGlobals "_law_bag" = some (some (.ref f4)))
    (l4 : K.lookup f4 = some ⟨oc4, od4, .func (PySem.W.fnOf "_law_bag" "_law_bag" (defArgs s_l_bag) (defBody s_l_bag) (defScope s_l_bag) .none kV4 dc4 pm4 an4 cd4 ct4), sl4⟩)
    (c4 : PySem.W.codeIn K cd4 "_law_bag" = true)
    (k4 : PySem.W.keepIn K (.ref f4) = true)
    (a5 : PySem.W.nsIn K mainGlobals "_law_take" = some (some (.ref f5)))
    (l5 : K.lookup f5 = some ⟨oc5, od5, .func (PySem.W.fnOf "_law_take" "_law_take" (defArgs s_l_take) (defBody s_l_take) (defScope s_l_take) .none kV5 dc5 pm5 an5 cd5 ct5), sl5⟩)
    (c5 : PySem.W.codeIn K cd5 "_law_take" = true)
    (k5 : PySem.W.keepIn K (.ref f5) = true)
    (a6 : PySem.W.nsIn K mainGlobals "_law_of" = some (some (.ref f6)))
    (l6 : K.lookup f6 = some ⟨oc6, od6, .func (PySem.W.fnOf "_law_of" "_law_of" (defArgs s_l_of) (defBody s_l_of) (defScope s_l_of) .none kV6 dc6 pm6 an6 cd6 ct6), sl6⟩)
    (c6 : PySem.W.codeIn K cd6 "_law_of" = true)
    (k6 : PySem.W.keepIn K (.ref f6) = true)
    (a7 : PySem.W.nsIn K mainGlobals "_law_same" = some (some (.ref f7)))
    (l7 : K.lookup f7 = some ⟨oc7, od7, .func (PySem.W.fnOf "_law_same" "_law_same" (defArgs s_l_same) (defBody s_l_same) (defScope s_l_same) .none kV7 dc7 pm7 an7 cd7 ct7), sl7⟩)
    (c7 : PySem.W.codeIn K cd7 "_law_same" = true)
    (k7 : PySem.W.keepIn K (.ref f7) = true)
    (a8 : PySem.W.nsIn K mainGlobals "_law_day" = some (some (.ref f8)))
    (l8 : K.lookup f8 = some ⟨oc8, od8, .func (PySem.W.fnOf "_law_day" "_law_day" (defArgs s_l_day) (defBody s_l_day) (defScope s_l_day) .none kV8 dc8 pm8 an8 cd8 ct8), sl8⟩)
    (c8 : PySem.W.codeIn K cd8 "_law_day" = true)
    (k8 : PySem.W.keepIn K (.ref f8) = true)
    (a9 : PySem.W.nsIn K mainGlobals "_law_odd" = some (some (.ref f9)))
    (l9 : K.lookup f9 = some ⟨oc9, od9, .func (PySem.W.fnOf "_law_odd" "_law_odd" (defArgs s_l_odd) (defBody s_l_odd) (defScope s_l_odd) .none kV9 dc9 pm9 an9 cd9 ct9), sl9⟩)
    (c9 : PySem.W.codeIn K cd9 "_law_odd" = true)
    (k9 : PySem.W.keepIn K (.ref f9) = true)
    (a10 : PySem.W.nsIn K mainGlobals "_law_spoilt" = some (some (.ref f10)))
    (l10 : K.lookup f10 = some ⟨oc10, od10, .func (PySem.W.fnOf "_law_spoilt" "_law_spoilt" (defArgs s_l_spoilt) (defBody s_l_spoilt) (defScope s_l_spoilt) .none kV10 dc10 pm10 an10 cd10 ct10), sl10⟩)
    (c10 : PySem.W.codeIn K cd10 "_law_spoilt" = true)
    (k10 : PySem.W.keepIn K (.ref f10) = true)
    (a11 : PySem.W.nsIn K mainGlobals "_law_from" = some (some (.ref f11)))
    (l11 : K.lookup f11 = some ⟨oc11, od11, .func (PySem.W.fnOf "_law_from" "_law_from" (defArgs s_l_from) (defBody s_l_from) (defScope s_l_from) .none kV11 dc11 pm11 an11 cd11 ct11), sl11⟩)
    (c11 : PySem.W.codeIn K cd11 "_law_from" = true)
    (k11 : PySem.W.keepIn K (.ref f11) = true)
    (a12 : PySem.W.nsIn K mainGlobals "_law_is_name" = some (some (.ref f12)))
    (l12 : K.lookup f12 = some ⟨oc12, od12, .func (PySem.W.fnOf "_law_is_name" "_law_is_name" (defArgs s_l_is_name) (defBody s_l_is_name) (defScope s_l_is_name) .none kV12 dc12 pm12 an12 cd12 ct12), sl12⟩)
    (c12 : PySem.W.codeIn K cd12 "_law_is_name" = true)
    (k12 : PySem.W.keepIn K (.ref f12) = true)
    (a13 : PySem.W.nsIn K mainGlobals "_law_is_paper" = some (some (.ref f13)))
    (l13 : K.lookup f13 = some ⟨oc13, od13, .func (PySem.W.fnOf "_law_is_paper" "_law_is_paper" (defArgs s_l_is_paper) (defBody s_l_is_paper) (defScope s_l_is_paper) .none kV13 dc13 pm13 an13 cd13 ct13), sl13⟩)
    (c13 : PySem.W.codeIn K cd13 "_law_is_paper" = true)
    (k13 : PySem.W.keepIn K (.ref f13) = true)
    (a14 : PySem.W.nsIn K mainGlobals "law" = some (some (.ref f14)))
    (l14 : K.lookup f14 = some ⟨oc14, od14, .func (PySem.W.fnOf "law" "law" (defArgs s_law) (defBody s_law) (defScope s_law) .none kV14 dc14 pm14 an14 cd14 ct14), sl14⟩)
    (c14 : PySem.W.codeIn K cd14 "law" = true)
    (k14 : PySem.W.keepIn K (.ref f14) = true)
    (z_all : PySem.W.nsIn K mainGlobals "all" = some none)
    (z_bool : PySem.W.nsIn K mainGlobals "bool" = some none)
    (z_int : PySem.W.nsIn K mainGlobals "int" = some none)
    (z_isinstance : PySem.W.nsIn K mainGlobals "isinstance" = some none)
    (z_len : PySem.W.nsIn K mainGlobals "len" = some none)
    (z_list : PySem.W.nsIn K mainGlobals "list" = some none)
    (z_min : PySem.W.nsIn K mainGlobals "min" = some none)
    (z_range : PySem.W.nsIn K mainGlobals "range" = some none)
    (z_str : PySem.W.nsIn K mainGlobals "str" = some none)
    (z_tuple : PySem.W.nsIn K mainGlobals "tuple" = some none)
    (q_LAST : PySem.W.nsIn K mainGlobals "LAST" = some (some gv_LAST))
    (v_LAST : ConstV gv_LAST c_LAST)
    (q_PLAIN_WORDS : PySem.W.nsIn K mainGlobals "PLAIN_WORDS" = some (some (.ref g_PLAIN_WORDS)))
    (r_PLAIN_WORDS : K.lookup g_PLAIN_WORDS = some ⟨.type "tuple", gd_PLAIN_WORDS, .seq gi_PLAIN_WORDS gn_PLAIN_WORDS, gs_PLAIN_WORDS⟩)
    (v_PLAIN_WORDS : ConstT gi_PLAIN_WORDS c_PLAIN_WORDS) :
    ∃ fd : FuncData, (∀ (s : Shared) (v : Value), BindsTo s fd ⟨[v], []⟩ [("_law_script", v)]) ∧ ∀ base : Heap, K.In base → base.Ns mainGlobals mg → FnOk l.prog w K mg base CX0 8 fa fd ["_law_script"] (spOf K sp_law) := by
  have e := hfa.symm.trans (PySem.W.mg_of X G a14)
  cases e
  have T : Txt K mg := { m_all := PySem.W.mg_none_of X G z_all, m_bool := PySem.W.mg_none_of X G z_bool, m_int := PySem.W.mg_none_of X G z_int, m_isinstance := PySem.W.mg_none_of X G z_isinstance, m_len := PySem.W.mg_none_of X G z_len, m_list := PySem.W.mg_none_of X G z_list, m_min := PySem.W.mg_none_of X G z_min, m_range := PySem.W.mg_none_of X G z_range, m_str := PySem.W.mg_none_of X G z_str, m_tuple := PySem.W.mg_none_of X G z_tuple, k_LAST := kst_val (PySem.W.mg_of X G q_LAST) v_LAST, k_PLAIN_WORDS := kst_tup (PySem.W.mg_of X G q_PLAIN_WORDS) r_PLAIN_WORDS v_PLAIN_WORDS }
  refine ⟨PySem.W.fnOf "law" "law" (defArgs s_law) (defBody s_law) (defScope s_law) .none kV14 dc14 pm14 an14 cd14 ct14, fun s v => .of_eq rfl, fun base _ _ => ?_⟩
  have G_is_from := ok_is_from (P := l.prog) (w := w) (base := base) T (fun_mk (st := s_is_from) l0 c0 k0) (PySem.W.mg_of X G a0)
  have G_is_name := ok_is_name (P := l.prog) (w := w) (base := base) T (fun_mk (st := s_is_name) l2 c2 k2) (PySem.W.mg_of X G a2)
  have G_l_bag := ok_l_bag (P := l.prog) (w := w) (base := base) T (fun_mk (st := s_l_bag) l4 c4 k4) (PySem.W.mg_of X G a4)
  have G_l_take := ok_l_take (P := l.prog) (w := w) (base := base) T (fun_mk (st := s_l_take) l5 c5 k5) (PySem.W.mg_of X G a5)
  have G_l_same := ok_l_same (P := l.prog) (w := w) (base := base) T (fun_mk (st := s_l_same) l7 c7 k7) (PySem.W.mg_of X G a7)
  have G_l_from := ok_l_from (P := l.prog) (w := w) (base := base) T (fun_mk (st := s_l_from) l11 c11 k11) (PySem.W.mg_of X G a11)
  have G_l_is_name := ok_l_is_name (P := l.prog) (w := w) (base := base) T (fun_mk (st := s_l_is_name) l12 c12 k12) (PySem.W.mg_of X G a12)
  have G_is_day := ok_is_day (P := l.prog) (w := w) (base := base) T (Fact.mono G_is_from (by decide)) (fun_mk (st := s_is_day) l1 c1 k1) (PySem.W.mg_of X G a1)
  have G_l_of := ok_l_of (P := l.prog) (w := w) (base := base) T (Fact.mono G_l_take (by decide)) (fun_mk (st := s_l_of) l6 c6 k6) (PySem.W.mg_of X G a6)
  have G_l_is_paper := ok_l_is_paper (P := l.prog) (w := w) (base := base) T (Fact.mono G_l_from (by decide)) (Fact.mono G_l_is_name (by decide)) (fun_mk (st := s_l_is_paper) l13 c13 k13) (PySem.W.mg_of X G a13)
  have G_is_paper := ok_is_paper (P := l.prog) (w := w) (base := base) T (Fact.mono G_is_day (by decide)) (Fact.mono G_is_name (by decide)) (fun_mk (st := s_is_paper) l3 c3 k3) (PySem.W.mg_of X G a3)
  have G_l_day := ok_l_day (P := l.prog) (w := w) (base := base) T (Fact.mono G_l_of (by decide)) (Fact.mono G_l_take (by decide)) (fun_mk (st := s_l_day) l8 c8 k8) (PySem.W.mg_of X G a8)
  have G_l_odd := ok_l_odd (P := l.prog) (w := w) (base := base) T (Fact.mono G_l_of (by decide)) (fun_mk (st := s_l_odd) l9 c9 k9) (PySem.W.mg_of X G a9)
  have G_l_spoilt := ok_l_spoilt (P := l.prog) (w := w) (base := base) T (Fact.mono G_l_take (by decide)) (Fact.mono G_l_odd (by decide)) (fun_mk (st := s_l_spoilt) l10 c10 k10) (PySem.W.mg_of X G a10) 4
  exact ok_law (P := l.prog) (w := w) (base := base) T (Fact.mono G_l_bag (by decide)) (Fact.mono G_l_of (by decide)) (Fact.mono G_l_day (by decide)) (Fact.mono G_l_same (by decide)) (Fact.mono G_l_is_paper (by decide)) (Fact.mono G_is_paper (by decide)) (Fact.mono G_l_spoilt (by decide)) (fun_mk (st := s_law) l14 c14 k14)
theorem walk {l : PySem.W.OpenLaw} {q : Program} {loose : List Str} {XP : (Str → Option Value) → Heap → Prop} {YP : World → Heap → Prop} {d : DefRec} {K : Params → PySem.W.Frag} (hn : l.most = some 63) (hdf : d.params.defaults = [])
    (hY : ∀ (w : World) (h : Heap), YP w h → (K w.params).In h)
    (F : ∀ (w : World) (mg : Str → Option Value) (fa : Addr) (h : Heap), (K w.params).In h → h.Ns mainGlobals mg → mg d.name = some (.ref fa) →
      ∃ fd : FuncData, (∀ (s : Shared) (u : Value), BindsTo s fd ⟨[u], []⟩ [("_law_script", u)]) ∧ ∀ base : Heap, (K w.params).In base → base.Ns mainGlobals mg → FnOk l.prog w (K w.params) mg base CX0 8 fa fd ["_law_script"] (spOf (K w.params) sp_law)) :
    PySem.W.WalkO q loose XP YP l.row.toRowW d [] (fun f vs => PySem.call f vs) :=
  L2.walk_of (n := 63) (k := 8) (x := "_law_script") (CX := fun _ => CX0) (sp := fun w => spOf (K w.params) sp_law) hn (by decide) hdf ⟨rfl, by decide, by decide⟩ hY F (fun _ _ a ns hl _ hS => law_starts (sp := sp_law) hS (law_true ns hl)) fun _ _ _ _ _ z => z
end Pw
open PySem PySem.W PyProof.Rows in
set_option maxRecDepth 100000 in
set_option maxHeartbeats 0 in
theorem PySem.Challenge.cw_rightspan_k06_what_are_papers_holds : PySem.Challenge.rw_rightspan_k06_what_are_papers.Holds := by
  w_on; o_law; k_head; (case hw => w_witness2)
  k_fill
  refine Pw.walk (l := PySem.Challenge.rw_rightspan_k06_what_are_papers) rfl rfl (fun w h Y => PySem.W.kIn_of Y) ?F
  case F =>
    intro w mg fa h KX G hmg
    refine' Pw.all_mk KX G hmg ?a0 ?l0 ?c0 ?k0 ?a1 ?l1 ?c1 ?k1 ?a2 ?l2 ?c2 ?k2 ?a3 ?l3 ?c3 ?k3 ?a4 ?l4 ?c4 ?k4 ?a5 ?l5 ?c5 ?k5 ?a6 ?l6 ?c6 ?k6 ?a7 ?l7 ?c7 ?k7 ?a8 ?l8 ?c8 ?k8 ?a9 ?l9 ?c9 ?k9 ?a10 ?l10 ?c10 ?k10 ?a11 ?l11 ?c11 ?k11 ?a12 ?l12 ?c12 ?k12 ?a13 ?l13 ?c13 ?k13 ?a14 ?l14 ?c14 ?k14 ?z_all ?z_bool ?z_int ?z_isinstance ?z_len ?z_list ?z_min ?z_range ?z_str ?z_tuple ?q_LAST ?v_LAST ?q_PLAIN_WORDS ?r_PLAIN_WORDS ?v_PLAIN_WORDS
    (case a0 => k_is)
    (case l0 => k_is)
    (case c0 => k_is)
    (case k0 => k_is)
    (case a1 => k_is)
    (case l1 => k_is)
    (case c1 => k_is)
    (case k1 => k_is)
    (case a2 => k_is)
    (case l2 => k_is)
    (case c2 => k_is)
    (case k2 => k_is)
    (case a3 => k_is)
    (case l3 => k_is)
    (case c3 => k_is)
    (case k3 => k_is)
    (case a4 => k_is)
    (case l4 => k_is)
    (case c4 => k_is)
    (case k4 => k_is)
    (case a5 => k_is)
    (case l5 => k_is)
    (case c5 => k_is)
    (case k5 => k_is)
    (case a6 => k_is)
    (case l6 => k_is)
    (case c6 => k_is)
    (case k6 => k_is)
    (case a7 => k_is)
    (case l7 => k_is)
    (case c7 => k_is)
    (case k7 => k_is)
    (case a8 => k_is)
    (case l8 => k_is)
    (case c8 => k_is)
    (case k8 => k_is)
    (case a9 => k_is)
    (case l9 => k_is)
    (case c9 => k_is)
    (case k9 => k_is)
    (case a10 => k_is)
    (case l10 => k_is)
    (case c10 => k_is)
    (case k10 => k_is)
    (case a11 => k_is)
    (case l11 => k_is)
    (case c11 => k_is)
    (case k11 => k_is)
    (case a12 => k_is)
    (case l12 => k_is)
    (case c12 => k_is)
    (case k12 => k_is)
    (case a13 => k_is)
    (case l13 => k_is)
    (case c13 => k_is)
    (case k13 => k_is)
    (case a14 => k_is)
    (case l14 => k_is)
    (case c14 => k_is)
    (case k14 => k_is)
    (case z_all => k_is)
    (case z_bool => k_is)
    (case z_int => k_is)
    (case z_isinstance => k_is)
    (case z_len => k_is)
    (case z_list => k_is)
    (case z_min => k_is)
    (case z_range => k_is)
    (case z_str => k_is)
    (case z_tuple => k_is)
    (case q_LAST => k_is)
    (case v_LAST => exact ⟨.int 91310, ⟨_, rfl⟩, fun _ _ => by first | exact .int _ | exact .str _⟩)
    (case q_PLAIN_WORDS => k_is)
    (case r_PLAIN_WORDS => k_is)
    (case v_PLAIN_WORDS => exact ⟨[.str "act", .str "allow", .str "grant", .str "reply", .str "appeal", .str "pay", .str "drop", .str "fee", .str "revive", .str "give"], _, rfl, by repeat' (first | exact .nil | refine .cons ?_ ?_ | exact ⟨_, rfl⟩ | rfl), by decide, by intro K F; repeat' (first | exact .nil | refine .cons ?_ ?_ | exact .int _ | exact .str _ | exact .non | exact .bl _)⟩)
#print axioms PySem.Challenge.cw_rightspan_k06_what_are_papers_holds
