import PyProof.Rows.All
import HandS.ForMost
import HandS.Evl
import HandS.IsInst
import HandS.Wide
import HandS.WideBits
import HandS.Zip
import HandS.Flow
import HandS.TupAny
import HandS.Style
import HandS.Walk
import HandS.Rev
import HandS.RaiseMore
import HandS.WideMore
import PyProof.ReprLen
import PyProof.ReprRoads
import HandS.Conv
import HandS.More
import HandS.HeadHook3
import KE.SortData
import PyProof.ListMulAny
import HandS.Deep
import KE.KDictZip
import PyProof.ListNew
import KE.GoesEnum
import HandS.Iter
import HandS.Text
import KE.DataCmp
import PyProof.LongRange
import HandS.NoneIn
import HandS.SetFor
import HandS.Strs
import HandS.TupMul
import PySem.Challenge.RW_stagedrounding_k01_numbers_of_any_value
set_option Elab.async false
set_option linter.all false
set_option maxRecDepth 100000
set_option maxHeartbeats 4000000
set_option autoImplicit false
/-! Z: data in place of addresses, over the hand layer. -/
namespace Z
open L2 PySem PySem.Spec PyProof.Rows
open Evl (Ex ex_l ex_t ex_rd fresh_back)
abbrev Da := PyData
abbrev Fg := PySem.W.Frag

/-! ### what a value stands for, in the still part F of the heap -/
def keyD : Key → Da
  | .inl i => .int i
  | .inr x => .str x
mutual
inductive Rp (K : Fg) (F : Hp) : V → Da → Prop
  | non : Rp K F .non .none
  | bl (b : Bool) : Rp K F (.bl b) (.bool b)
  | int (i : Int) : Rp K F (.int i) (.int i)
  | str (x : Str) : Rp K F (.str x) (.str x)
  | lst {a : Addr} {xs : List V} {ds : List Da} : F a = some (.lst xs) → Rps K F xs ds → Rp K F (.ref a) (.list ds)
  | tup {a : Addr} {xs : List V} {ds : List Da} : SqT K F a xs → Rps K F xs ds → Rp K F (.ref a) (.tuple ds)
  | dct {a : Addr} {kvs : List (Key × V)} {es : List (Da × Da)} : Rd F a (.dK kvs) → RpK K F kvs es → Rp K F (.ref a) (.dict es)
inductive Rps (K : Fg) (F : Hp) : List V → List Da → Prop
  | nil : Rps K F [] []
  | cons {v : V} {vs : List V} {d : Da} {ds : List Da} : Rp K F v d → Rps K F vs ds → Rps K F (v :: vs) (d :: ds)
inductive RpK (K : Fg) (F : Hp) : List (Key × V) → List (Da × Da) → Prop
  | nil : RpK K F [] []
  | cons {k : Key} {v : V} {vs : List (Key × V)} {d : Da} {ds : List (Da × Da)} : Rp K F v d → RpK K F vs ds → RpK K F ((k, v) :: vs) ((keyD k, d) :: ds)
end
section
variable {K : Fg} {F F' : Hp}
mutual
theorem Rp.mono (e : Ex F F') : ∀ (d : Da) (v : V), Rp K F v d → Rp K F' v d
  | .none, _, h => by cases h; exact .non
  | .bool b, _, h => by cases h; exact .bl b
  | .int i, _, h => by cases h; exact .int i
  | .str x, _, h => by cases h; exact .str x
  | .list ds, _, h => by cases h with | lst hs ha => exact .lst (e _ _ hs) (Rps.mono e ds _ ha)
  | .tuple ds, _, h => by cases h with | tup hs ha => exact .tup (ex_t e hs) (Rps.mono e ds _ ha)
  | .dict es, _, h => by cases h with | dct hs ha => exact .dct (ex_rd e hs) (RpK.mono e es _ ha)
theorem Rps.mono (e : Ex F F') : ∀ (ds : List Da) (vs : List V), Rps K F vs ds → Rps K F' vs ds
  | [], _, h => by cases h; exact .nil
  | d :: ds, _, h => by cases h with | cons h1 h2 => exact .cons (Rp.mono e d _ h1) (Rps.mono e ds _ h2)
theorem RpK.mono (e : Ex F F') : ∀ (ds : List (Da × Da)) (vs : List (Key × V)), RpK K F vs ds → RpK K F' vs ds
  | [], _, h => by cases h; exact .nil
  | (_, d) :: ds, _, h => by cases h with | cons h1 h2 => exact .cons (Rp.mono e d _ h1) (RpK.mono e ds _ h2)
end
theorem Rp.up {v : V} {d : Da} (h : Rp K F v d) (e : Ex F F') : Rp K F' v d := Rp.mono e d v h
theorem Rps.up {v : List V} {d : List Da} (h : Rps K F v d) (e : Ex F F') : Rps K F' v d := Rps.mono e d v h
theorem Rps.len : ∀ {vs : List V} {ds : List Da}, Rps K F vs ds → vs.length = ds.length
  | _, _, .nil => rfl
  | _, _, .cons _ t => congrArg (· + 1) t.len
theorem Rps.get : ∀ {vs : List V} {ds : List Da} {i : Nat} {d : Da}, Rps K F vs ds → ds[i]? = some d → ∃ v, vs[i]? = some v ∧ Rp K F v d
  | _, _, _, _, .nil, e => by simp at e
  | _, _, 0, _, .cons r _, e => by simp at e; subst e; exact ⟨_, rfl, r⟩
  | _, _, i + 1, d, .cons _ t, e => by
    obtain ⟨u, h1, h2⟩ := Rps.get (i := i) (d := d) t (by simpa using e)
    exact ⟨u, by simpa using h1, h2⟩
theorem Rps.app : ∀ {vs us : List V} {ds es : List Da}, Rps K F vs ds → Rps K F us es → Rps K F (vs ++ us) (ds ++ es)
  | _, _, _, _, .nil, s => s
  | _, _, _, _, .cons r t, s => .cons r (t.app s)
theorem Rps.drp : ∀ (n : Nat) {vs : List V} {ds : List Da}, Rps K F vs ds → Rps K F (vs.drop n) (ds.drop n)
  | 0, _, _, h => h
  | n + 1, _, _, .nil => .nil
  | n + 1, _, _, .cons _ t => Rps.drp n t
theorem Rps.tak : ∀ (n : Nat) {vs : List V} {ds : List Da}, Rps K F vs ds → Rps K F (vs.take n) (ds.take n)
  | 0, _, _, h => .nil
  | n + 1, _, _, .nil => .nil
  | n + 1, _, _, .cons r t => .cons r (Rps.tak n t)
theorem Rps.st {v : V} {d : Da} (r : Rp K F v d) : ∀ (n : Nat) {vs : List V} {ds : List Da}, Rps K F vs ds → Rps K F (vs.set n v) (ds.set n d)
  | _, _, _, .nil => .nil
  | 0, _, _, .cons _ t => .cons r t
  | n + 1, _, _, .cons q t => .cons q (Rps.st r n t)
theorem Rps.ints : ∀ (ns : List Int), Rps K F (ns.map V.int) (ns.map PyData.int)
  | [] => .nil
  | n :: ns => .cons (.int n) (Rps.ints ns)
end

/-! ### the frame, told by data -/
/-- a still thing that is no datum: an instance by its class's name and its fields; an exception of the program's own by its class's name and its value -/
inductive Kd where | ins (nm : Str) (fs : List (Str × Da)) | exc (nm : Str) (d : Da) | at (p : Addr) | insAt (p : Addr) (nm : Str) (fs : List (Str × Da))
def ObOk (K : Fg) (F : Hp) (v : V) : Kd → Prop
  | .ins nm fs => ∃ (p C dx : Addr) (us : List (Str × V)), v = .ref p ∧ PySem.W.nsIn K mainGlobals nm = some (some (.ref C)) ∧ F p = some (.ins C dx us) ∧ us.map Prod.fst = fs.map Prod.fst ∧ Rps K F (us.map Prod.snd) (fs.map Prod.snd)
  | .exc _ _ => False
  | .at p => v = .ref p
  | .insAt p nm fs => ∃ (C dx : Addr) (us : List (Str × V)), v = .ref p ∧ PySem.W.nsIn K mainGlobals nm = some (some (.ref C)) ∧ F p = some (.ins C dx us) ∧ us.map Prod.fst = fs.map Prod.fst ∧ Rps K F (us.map Prod.snd) (fs.map Prod.snd)
theorem ObOk.up {K : Fg} {F F' : Hp} {v : V} (e : Ex F F') : ∀ {k : Kd}, ObOk K F v k → ObOk K F' v k
  | .ins _ _, ⟨p, C, dx, us, h1, h2, h3, h4, h5⟩ => ⟨p, C, dx, us, h1, h2, e _ _ h3, h4, h5.up e⟩
  | .exc _ _, h => h
  | .at _, h => h
  | .insAt _ _ _, ⟨C, dx, us, h1, h2, h3, h4, h5⟩ => ⟨C, dx, us, h1, h2, e _ _ h3, h4, h5.up e⟩
/-- a local's content: a datum; an own list, not yet given away; the source of draws -/
inductive Sv where | val (d : Da) | own (ds : List Da) | src | scr (ns : List Int) | ob (k : Kd)
/-- an expression's value -/
inductive Rv where | val (d : Da) | src | scr (ns : List Int) | ob (k : Kd)
/-- a def's result -/
inductive Rr where | val (d : Da) | own (ds : List Da)
structure Gs where
  sl : List (Option Sv)
  fu : Option Nat
  ow : Bool
/-- the entry: the still part, the heap, the source that was handed in -/
structure Con where
  F : Hp
  H : Hp
  ext : Option Addr
def modS : Int := 2305843009213693921
/-- a source of draws that may be asked n times more -/
def SrcAt (H : Hp) (a : Addr) (n : Nat) : Prop := ∃ x y z : Int, H a = some (.lst [.int x, .int y, .int z]) ∧ 0 ≤ x ∧ x < 2 ^ 1000 ∧ 0 ≤ y ∧ y < modS ∧ 0 ≤ z ∧ z + n ≤ 2 ^ 40
def SlOk (K : Fg) (F H : Hp) (c : Con) (a : Addr) (fu : Option Nat) (v : V) : Sv → Prop
  | .val d => Rp K F v d
  | .own ds => ∃ o xs, v = .ref o ∧ F o = none ∧ c.H o = none ∧ H o = some (.lst xs) ∧ Rps K F xs ds ∧ (fu ≠ none → o ≠ a)
  | .src => v = .ref a ∧ fu ≠ none
  | .scr ns => ∃ b, v = .ref b ∧ SqL K F b (ns.map V.int)
  | .ob k => ObOk K F v k
def RvOk (K : Fg) (F : Hp) (a : Addr) (fu : Option Nat) (v : V) : Rv → Prop
  | .val d => Rp K F v d
  | .src => v = .ref a ∧ fu ≠ none
  | .scr ns => ∃ b, v = .ref b ∧ SqL K F b (ns.map V.int)
  | .ob k => ObOk K F v k
theorem RvOk.up {K : Fg} {F F' : Hp} {a : Addr} {fu : Option Nat} {v : V} (e : Ex F F') : ∀ {r : Rv}, RvOk K F a fu v r → RvOk K F' a fu v r
  | .val _, h => Rp.up h e
  | .src, h => h
  | .scr _, ⟨b, h1, h2⟩ => ⟨b, h1, ex_l e h2⟩
  | .ob _, h => ObOk.up e h
inductive Tm (K : Fg) (F : Hp) (a : Addr) (fu : Option Nat) : List V → List Rv → Prop
  | nil : Tm K F a fu [] []
  | cons {v : V} {vs : List V} {r : Rv} {rs : List Rv} : RvOk K F a fu v r → Tm K F a fu vs rs → Tm K F a fu (v :: vs) (r :: rs)
structure Sta (K : Fg) (c : Con) (g : Gs) (σ : L2.St) (H : Hp) (tv : List V) (tr : List Rv) (F : Hp) (a : Addr) : Prop where
  e0 : Ex c.F F
  eh : Ex F H
  keep : ∀ b o, c.ext ≠ some b → c.H b = some o → H b = some o
  new : ∀ b, F b ≠ none → c.F b ≠ none ∨ c.H b = none
  ex : ∀ b, c.ext = some b → a = b ∧ g.fu ≠ none
  ow : g.ow = true → c.ext = none
  src : ∀ n, g.fu = some n → F a = none ∧ (c.ext = some a ∨ (c.ext = none ∧ c.H a = none)) ∧ SrcAt H a n
  tmp : Tm K F a g.fu tv tr
  len : σ.length = g.sl.length
  slot : ∀ (i : Nat) s, g.sl[i]? = some (some s) → ∃ v, σ[i]? = some (some v) ∧ SlOk K F H c a g.fu v s
  dis : ∀ (i j : Nat) ds es, i ≠ j → g.sl[i]? = some (some (.own ds)) → g.sl[j]? = some (some (.own es)) → σ[i]? ≠ σ[j]?

/-- still part and heap have grown -/
structure Gr (F H F' H' : Hp) : Prop where
  f : Ex F F'
  h : Ex H H'
  s : Ex F' H'
  n : ∀ b, F' b ≠ none → F b ≠ none ∨ H b = none
theorem Gr.refl {F H : Hp} (e : Ex F H) : Gr F H F H := ⟨Ex.refl _, Ex.refl _, e, fun _ h => .inl h⟩
theorem ne_none {α : Type} {x : Option α} {o : α} (h : x = some o) : x ≠ none := by rw [h]; exact fun z => nomatch z
theorem Gr.new {F H : Hp} {p : Addr} {o : HO} (e : Ex F H) (hp : H p = none) : Gr F H (upd F p o) (upd H p o) := by
  have fp : F p = none := fresh_back e hp
  refine ⟨Ex.new fp, Ex.new hp, fun b u q => ?_, fun b q => ?_⟩
  · by_cases hb : b = p
    · subst hb; rw [upd_same] at q ⊢; exact q
    · rw [upd_ne hb] at q ⊢; exact e b u q
  · by_cases hb : b = p
    · subst hb; exact .inr hp
    · rw [upd_ne hb] at q; exact .inl q
theorem Gr.trans {F H F1 H1 F2 H2 : Hp} (a : Gr F H F1 H1) (b : Gr F1 H1 F2 H2) : Gr F H F2 H2 :=
  ⟨a.f.trans b.f, a.h.trans b.h, b.s, fun x q => by
    rcases b.n x q with z | z
    · exact a.n x z
    · exact .inr (fresh_back a.h z)⟩
theorem Tm.up {K : Fg} {F F' : Hp} {a : Addr} {fu : Option Nat} (e : Ex F F') : ∀ {tv : List V} {tr : List Rv}, Tm K F a fu tv tr → Tm K F' a fu tv tr
  | _, _, .nil => .nil
  | _, _, .cons (r := r) h t => .cons (h.up e) (t.up e)
section
variable {K : Fg} {c : Con} {g : Gs} {σ : L2.St} {H H' F F' : Hp} {tv : List V} {tr : List Rv} {a : Addr}
/-- an old address is not new -/
theorem Sta.fresh (s : Sta K c g σ H tv tr F a) {b : Addr} (h : H b = none) : c.H b = none := by
  cases q : c.H b with
  | none => rfl
  | some o =>
    by_cases hx : c.ext = some b
    · obtain ⟨e1, e2⟩ := s.ex b hx
      subst e1
      cases hf : g.fu with
      | none => exact absurd hf e2
      | some n =>
        obtain ⟨_, _, x, y, z, e, _⟩ := s.src n hf
        rw [h] at e; cases e
    · rw [s.keep b o hx q] at h; cases h
theorem Sta.grow (s : Sta K c g σ H tv tr F a) (r : Gr F H F' H') : Sta K c g σ H' tv tr F' a where
  e0 := s.e0.trans r.f
  eh := r.s
  keep := fun b o h1 h2 => r.h b o (s.keep b o h1 h2)
  new := fun b q => by
    rcases r.n b q with z | z
    · exact s.new b z
    · exact .inr (s.fresh z)
  ex := s.ex
  ow := s.ow
  src := fun n h => by
    obtain ⟨h1, h2, x, y, z, e, h3⟩ := s.src n h
    refine ⟨?_, h2, x, y, z, r.h _ _ e, h3⟩
    cases q : F' a with
    | none => rfl
    | some o =>
      rcases r.n a (ne_none q) with z | z
      · exact absurd h1 z
      · rw [e] at z; cases z
  tmp := s.tmp.up r.f
  len := s.len
  slot := fun i sv h => by
    obtain ⟨v, h1, h2⟩ := s.slot i sv h
    refine ⟨v, h1, ?_⟩
    cases sv with
    | val d => exact Rp.up h2 r.f
    | src => exact h2
    | scr ns => obtain ⟨b, z1, z2⟩ := h2; exact ⟨b, z1, ex_l r.f z2⟩
    | ob k => exact ObOk.up r.f h2
    | own ds =>
      obtain ⟨o, xs, q1, q2, q3, q4, q5, q6⟩ := h2
      refine ⟨o, xs, q1, ?_, q3, r.h _ _ q4, q5.up r.f, q6⟩
      cases q : F' o with
      | none => rfl
      | some u =>
        rcases r.n o (ne_none q) with z | z
        · exact absurd q2 z
        · rw [q4] at z; cases z
  dis := s.dis
theorem Sta.push (s : Sta K c g σ H tv tr F a) {v : V} {r : Rv} (h : RvOk K F a g.fu v r) : Sta K c g σ H (v :: tv) (r :: tr) F a :=
  ⟨s.e0, s.eh, s.keep, s.new, s.ex, s.ow, s.src, .cons h s.tmp, s.len, s.slot, s.dis⟩
theorem Sta.pop (s : Sta K c g σ H tv tr F a) {tv' : List V} {tr' : List Rv} (h : Tm K F a g.fu tv' tr') : Sta K c g σ H tv' tr' F a :=
  ⟨s.e0, s.eh, s.keep, s.new, s.ex, s.ow, s.src, h, s.len, s.slot, s.dis⟩
theorem Sta.pop1 {v : V} {r : Rv} (s : Sta K c g σ H (v :: tv) (r :: tr) F a) : Sta K c g σ H tv tr F a :=
  s.pop (by cases s.tmp with | cons _ t => exact t)
theorem Sta.top {v : V} {r : Rv} (s : Sta K c g σ H (v :: tv) (r :: tr) F a) : RvOk K F a g.fu v r := by
  cases s.tmp with | cons h _ => exact h
end

/-! ### readings by data -/
abbrev DE := Gs → (Rv → Gs → Prop) → Prop
abbrev DL := Gs → (List Da → Gs → Prop) → Prop
abbrev DT := Gs → (Bool → Gs → Prop) → Prop
abbrev DA := Gs → (List Rv → Gs → Prop) → Prop
structure DEnds where
  nx : Gs → Prop
  rt : Rr → Gs → Prop
  bk : Gs → Prop := fun _ => False
  ct : Gs → Prop := fun _ => False
abbrev DS := DEnds → Gs → Prop
def up (K : Fg) (t : DE) : TE := fun σ H Q => ∃ c g tv tr F a post, Sta K c g σ H tv tr F a ∧ t g post ∧
  ∀ r g' v H' F' a', post r g' → Sta K c g' σ H' (v :: tv) (r :: tr) F' a' → Q v H'
def upT (K : Fg) (t : DT) : TT := fun σ H Q => ∃ c g tv tr F a post, Sta K c g σ H tv tr F a ∧ t g post ∧
  ∀ b g' H' F' a', post b g' → Sta K c g' σ H' tv tr F' a' → Q b H'
/-- a new list, at an address of its own -/
structure NewL (K : Fg) (c : Con) (g : Gs) (σ : L2.St) (H F : Hp) (a : Addr) (v : V) (ds : List Da) : Prop where
  ex : ∃ o xs, v = .ref o ∧ F o = none ∧ c.H o = none ∧ H o = some (.lst xs) ∧ Rps K F xs ds ∧ (g.fu ≠ none → o ≠ a) ∧
    ∀ (i : Nat) (es : List Da), g.sl[i]? = some (some (Sv.own es)) → σ[i]? ≠ some (some (V.ref o))
def upL (K : Fg) (t : DL) : TE := fun σ H Q => ∃ c g tv tr F a post, Sta K c g σ H tv tr F a ∧ t g post ∧
  ∀ ds g' v H' F' a', post ds g' → Sta K c g' σ H' tv tr F' a' → NewL K c g' σ H' F' a' v ds → Q v H'
def upA (K : Fg) (t : DA) : TA := fun σ H Q => ∃ c g tv tr F a post, Sta K c g σ H tv tr F a ∧ t g post ∧
  ∀ rs g' vs H' F' a', post rs g' → Sta K c g' σ H' (vs.reverse ++ tv) (rs.reverse ++ tr) F' a' → vs.length = rs.length → Q vs H'
structure DD (K : Fg) (c : Con) (tv : List V) (tr : List Rv) (d : DEnds) (D : Ends) : Prop where
  nx : ∀ g σ H F a, d.nx g → Sta K c g σ H tv tr F a → D.nx σ H
  bk : ∀ g σ H F a, d.bk g → Sta K c g σ H tv tr F a → D.bk σ H
  ct : ∀ g σ H F a, d.ct g → Sta K c g σ H tv tr F a → D.ct σ H
  rv : ∀ x g σ v H F a, d.rt (.val x) g → Sta K c g σ H (v :: tv) (.val x :: tr) F a → D.rt v H
  ro : ∀ ds g σ v H F a, d.rt (.own ds) g → Sta K c g σ H tv tr F a → NewL K c { g with sl := [] } [] H F a v ds → D.rt v H
def hasSrc : List Rv → Bool
  | [] => false
  | .src :: _ => true
  | _ :: r => hasSrc r
theorem hasSrc_app : ∀ {rs ts : List Rv}, hasSrc rs = false → hasSrc ts = false → hasSrc (rs ++ ts) = false
  | [], _, _, h => h
  | .val _ :: rs, _, h, h' => hasSrc_app (rs := rs) h h'
  | .scr _ :: rs, _, h, h' => hasSrc_app (rs := rs) h h'
  | .ob _ :: rs, _, h, h' => hasSrc_app (rs := rs) h h'
  | .src :: _, _, h, _ => by cases h
def upS (K : Fg) (t : DS) : TS := fun D σ H => ∃ c g tv tr F a d, Sta K c g σ H tv tr F a ∧ hasSrc tr = false ∧ t d g ∧ DD K c tv tr d D
section
variable {X : Cx} {e : Expr}
theorem pe_to {t t' : TE} (h : PE X e t) (i : ∀ σ H Q, t' σ H Q → t σ H Q) : PE X e t' := ⟨fun pins s σ H Q I q => h.run pins s σ H Q I (i σ H Q q)⟩
theorem pt_to {t t' : TT} (h : PT X e t) (i : ∀ σ H Q, t' σ H Q → t σ H Q) : PT X e t' := ⟨fun pins s σ H Q I q => h.run pins s σ H Q I (i σ H Q q)⟩
theorem pw_to {t t' : TT} (h : PW X e t) (i : ∀ σ H Q, t' σ H Q → t σ H Q) : PW X e t' := ⟨fun w pins s σ H Q I q => h.run w pins s σ H Q I (i σ H Q q)⟩
theorem pa_to {es : List Expr} {t t' : TA} (h : PA X es t) (i : ∀ σ H Q, t' σ H Q → t σ H Q) : PA X es t' := ⟨fun p pins s σ H Q I q => h.run p pins s σ H Q I (i σ H Q q)⟩
theorem ps_to {st : Stmt} {t t' : TS} (h : PS X st t) (i : ∀ D σ H, t' D σ H → t D σ H) : PS X st t' := ⟨fun pins s σ H D I q => h.run pins s σ H D I (i D σ H q)⟩
theorem pss_to {st : List Stmt} {t t' : TS} (h : PSs X st t) (i : ∀ D σ H, t' D σ H → t D σ H) : PSs X st t' := ⟨fun pins s σ H D I q => h.run pins s σ H D I (i D σ H q)⟩
end

/-! ### names and constants -/
def Gs.set (g : Gs) (i : Nat) (s : Sv) : Gs := { g with sl := g.sl.set i (some s) }
def dVar (i : Nat) : DE := fun g Q => match g.sl[i]? with
  | some (some (.val d)) => Q (.val d) g
  | some (some .src) => Q .src g
  | some (some (.scr ns)) => Q (.scr ns) g
  | some (some (.ob k)) => Q (.ob k) g
  | some (some (.own ds)) => Q (.val (.list ds)) (g.set i (.val (.list ds)))
  | _ => False
def dC (d : Da) : DE := fun g Q => Q (.val d) g
section
variable {K : Fg} {c : Con} {g : Gs} {σ : L2.St} {H H' F F' : Hp} {tv : List V} {tr : List Rv} {a : Addr}
/-- an own list is given away: it stands still from now on -/
theorem Sta.freeze (s : Sta K c g σ H tv tr F a) {i : Nat} {ds : List Da} (h : g.sl[i]? = some (some (.own ds))) :
    ∃ o F', σ[i]? = some (some (.ref o)) ∧ Rp K F' (.ref o) (.list ds) ∧ Sta K c (g.set i (.val (.list ds))) σ H tv tr F' a := by
  obtain ⟨v, h1, o, xs, rfl, q2, q3, q4, q5, q6⟩ := s.slot i _ h
  have ef : Ex F (upd F o (.lst xs)) := Ex.new q2
  have ro : Rp K (upd F o (.lst xs)) (.ref o) (.list ds) := .lst upd_same (q5.up ef)
  have hi : i < g.sl.length := (List.getElem?_eq_some_iff.mp h).1
  refine ⟨o, upd F o (.lst xs), h1, ro, s.e0.trans ef, fun b u q => ?_, s.keep, fun b q => ?_, s.ex, s.ow, fun n hn => ?_, s.tmp.up ef, ?_, fun j sv hj => ?_, fun j k es fs hjk hj hk => ?_⟩
  · by_cases hb : b = o
    · subst hb; rw [upd_same] at q; cases q; exact q4
    · rw [upd_ne hb] at q; exact s.eh b u q
  · by_cases hb : b = o
    · subst hb; exact .inr q3
    · rw [upd_ne hb] at q; exact s.new b q
  · obtain ⟨z1, z2⟩ := s.src n hn
    refine ⟨?_, z2⟩
    rw [upd_ne (fun z => q6 (ne_none hn) z.symm)]; exact z1
  · show σ.length = (g.sl.set i _).length
    rw [List.length_set]; exact s.len
  · by_cases hji : j = i
    · subst hji
      have : (g.sl.set j (some (Sv.val (.list ds))))[j]? = some (some sv) := hj
      rw [List.getElem?_set_self hi] at this
      cases this
      exact ⟨_, h1, ro⟩
    · have : (g.sl.set i (some (Sv.val (.list ds))))[j]? = some (some sv) := hj
      rw [List.getElem?_set_ne (Ne.symm hji)] at this
      obtain ⟨v, w1, w2⟩ := s.slot j sv this
      refine ⟨v, w1, ?_⟩
      cases sv with
      | val d => exact Rp.up w2 ef
      | src => exact w2
      | scr ns => obtain ⟨b, z1, z2⟩ := w2; exact ⟨b, z1, ex_l ef z2⟩
      | ob k => exact ObOk.up ef w2
      | own es =>
        obtain ⟨o', ys, r1, r2, r3, r4, r5, r6⟩ := w2
        have ne : o' ≠ o := fun z => s.dis j i es ds hji this h (by rw [w1, h1, r1, z])
        exact ⟨o', ys, r1, by rw [upd_ne ne]; exact r2, r3, r4, r5.up ef, r6⟩
  · have n1 : j ≠ i := fun z => by
      subst z
      have : (g.sl.set j (some (Sv.val (.list ds))))[j]? = some (some (.own es)) := hj
      rw [List.getElem?_set_self hi] at this; cases this
    have n2 : k ≠ i := fun z => by
      subst z
      have : (g.sl.set k (some (Sv.val (.list ds))))[k]? = some (some (.own fs)) := hk
      rw [List.getElem?_set_self hi] at this; cases this
    have e1 : (g.sl.set i (some (Sv.val (.list ds))))[j]? = some (some (.own es)) := hj
    have e2 : (g.sl.set i (some (Sv.val (.list ds))))[k]? = some (some (.own fs)) := hk
    rw [List.getElem?_set_ne (Ne.symm n1)] at e1
    rw [List.getElem?_set_ne (Ne.symm n2)] at e2
    exact s.dis j k es fs hjk e1 e2
end
section
variable {X : Cx} {e : Expr}
theorem e_var (i : Nat) (h : PE X e (tVar i)) : PE X e (up X.K (dVar i)) := pe_to h fun σ H Q q => by
  obtain ⟨c, g, tv, tr, F, a, post, s, t, k⟩ := q
  unfold dVar at t
  split at t
  · rename_i d hd
    obtain ⟨v, h1, h2⟩ := s.slot i _ hd
    exact ⟨v, h1, k _ g v H F a t (s.push (r := .val d) h2)⟩
  · rename_i hd
    obtain ⟨v, h1, h2⟩ := s.slot i _ hd
    exact ⟨v, h1, k _ g v H F a t (s.push (r := .src) h2)⟩
  · rename_i ns hd
    obtain ⟨v, h1, h2⟩ := s.slot i _ hd
    exact ⟨v, h1, k _ g v H F a t (s.push (r := .scr ns) h2)⟩
  · rename_i kd hd
    obtain ⟨v, h1, h2⟩ := s.slot i _ hd
    exact ⟨v, h1, k _ g v H F a t (s.push (r := .ob kd) h2)⟩
  · rename_i ds hd
    obtain ⟨o, F', h1, h2, s'⟩ := s.freeze hd
    exact ⟨_, h1, k _ _ _ H F' a t (s'.push (r := .val (.list ds)) h2)⟩
  · exact t.elim
/-- anything whose value is plain and the same always -/
theorem e_c {v : V} {d : Da} (h : PE X e (tC v)) (r : ∀ F, Rp X.K F v d) : PE X e (up X.K (dC d)) := pe_to h fun σ H Q q => by
  obtain ⟨c, g, tv, tr, F, a, post, s, t, k⟩ := q
  exact k _ g v H F a t (s.push (r := .val d) (r F))
theorem e_int {i j pos} : PE X (.Constant (.int i) j pos) (up X.K (dC (.int i))) := e_c pe_int fun _ => .int i
theorem e_bl {b j pos} : PE X (.Constant (.bool b) j pos) (up X.K (dC (.bool b))) := e_c pe_bl fun _ => .bl b
theorem e_non {j pos} : PE X (.Constant .none j pos) (up X.K (dC .none)) := e_c pe_non fun _ => .non
theorem e_str {x j pos} : PE X (.Constant (.str x) j pos) (up X.K (dC (.str x))) := e_c pe_str fun _ => .str x
end
end Z

namespace Z
open L2 PySem PySem.Spec PyProof.Rows
open Evl (Ex ex_l ex_t ex_rd fresh_back)

/-! ### operators -/
abbrev BinF := Da → Da → (Da → Prop) → Prop
def dBin (f : BinF) (ta tb : DE) : DE := fun g Q => ta g fun x g1 => tb g1 fun y g2 => match x, y with
  | .val d, .val e => f d e fun z => Q (.val z) g2
  | _, _ => False
/-- on values: what r asks follows from f -/
def BinOk (K : Fg) (r : R2) (f : BinF) : Prop := ∀ (F H : Hp) (x y : V) (d e : Da) (post : Da → Prop) (Q : VK), Ex F H → Rp K F x d → Rp K F y e → f d e post →
  (∀ z v H' F', post z → Gr F H F' H' → Rp K F' v z → Q v H') → r x y H Q
section
variable {X : Cx} {a b : Expr} {ta tb : DE} {pos : Pos} {f : BinF} {r : R2}
theorem bin_core (hf : BinOk X.K r f) : ∀ σ H Q, up X.K (dBin f ta tb) σ H Q → tOp r (up X.K ta) (up X.K tb) σ H Q := fun σ H Q q => by
  obtain ⟨c, g, tv, tr, F, ad, post, s, t, k⟩ := q
  refine ⟨c, g, tv, tr, F, ad, _, s, t, fun x g1 v1 H1 F1 a1 t1 s1 => ?_⟩
  refine ⟨c, g1, _, _, F1, a1, _, s1, t1, fun y g2 v2 H2 F2 a2 t2 s2 => ?_⟩
  cases x with
  | val d =>
    cases y with
    | val e =>
      have r1 : Rp X.K F2 v1 d := s2.pop1.top
      have r2 : Rp X.K F2 v2 e := s2.top
      refine hf F2 H2 v1 v2 d e _ Q s2.eh r1 r2 t2 fun z v H' F' hz gr rz => ?_
      exact k _ g2 v H' F' a2 hz ((s2.pop1.pop1.grow gr).push (r := .val z) rz)
    | src => exact t2.elim
    | scr _ => exact t2.elim
    | ob _ => exact t2.elim
  | src => exact t2.elim
  | scr _ => exact t2.elim
  | ob _ => exact t2.elim
theorem e_bin {op : Operator} (ho : OpR X (binaryOp op) r) (hf : BinOk X.K r f) (ha : PE X a (up X.K ta)) (hb : PE X b (up X.K tb)) : PE X (.BinOp a op b pos) (up X.K (dBin f ta tb)) :=
  pe_to (pe_op ho ha hb) (bin_core hf)
theorem e_cmp {op : CmpOp} (ho : OpR X (compareOp op) r) (hf : BinOk X.K r f) (ha : PE X a (up X.K ta)) (hb : PE X b (up X.K tb)) (hm : behindInMarks op b = false) : PE X (.Compare a [op] [b] pos) (up X.K (dBin f ta tb)) :=
  pe_to (pe_cmpR ho ha hb hm) (bin_core hf)
theorem or_op {ff : Value → Value → Sem Value} {r1 r2 : R2} (h1 : OpR X ff r1) (h2 : OpR X ff r2) : OpR X ff (fun x y H Q => r1 x y H Q ∨ r2 x y H Q) := by
  intro pins s σ H x y v u Q I rx ry h
  rcases h with h | h
  · exact h1 pins s σ H x y v u Q I rx ry h
  · exact h2 pins s σ H x y v u Q I rx ry h
end

/-! ints -/
def fI (C : Int → Int → Prop) (o : Int → Int → Da) : BinF := fun d e post => match d, e with
  | .int i, .int j => C i j ∧ post (o i j)
  | _, _ => False
section
variable {K : Fg}
theorem ok_I {C : Int → Int → Prop} {o : Int → Int → Int} : BinOk K (rI C fun i j => .int (o i j)) (fI C fun i j => .int (o i j)) := fun F H x y d e post Q hx r1 r2 hf k => by
  cases d with
  | int i =>
    cases e with
    | int j =>
      cases r1; cases r2
      exact ⟨i, j, rfl, rfl, hf.1, k _ _ H F hf.2 (Gr.refl hx) (.int _)⟩
    | _ => exact hf.elim
  | _ => exact hf.elim
theorem ok_Ib {C : Int → Int → Prop} {o : Int → Int → Bool} : BinOk K (rI C fun i j => .bl (o i j)) (fI C fun i j => .bool (o i j)) := fun F H x y d e post Q hx r1 r2 hf k => by
  cases d with
  | int i =>
    cases e with
    | int j =>
      cases r1; cases r2
      exact ⟨i, j, rfl, rfl, hf.1, k _ _ H F hf.2 (Gr.refl hx) (.bl _)⟩
    | _ => exact hf.elim
  | _ => exact hf.elim
end
def fI0 (o : Int → Int → Da) : BinF := fun d e post => match d, e with
  | .int i, .int j => post (o i j)
  | _, _ => False
section
variable {K : Fg}
theorem ok_I0 {o : Int → Int → Int} : BinOk K (rI0 fun i j => .int (o i j)) (fI0 fun i j => .int (o i j)) := fun F H x y d e post Q hx r1 r2 hf k => by
  cases d with
  | int i =>
    cases e with
    | int j =>
      cases r1; cases r2
      exact ⟨i, j, rfl, rfl, k _ _ H F hf (Gr.refl hx) (.int _)⟩
    | _ => exact hf.elim
  | _ => exact hf.elim
theorem ok_I0b {o : Int → Int → Bool} : BinOk K (rI0 fun i j => .bl (o i j)) (fI0 fun i j => .bool (o i j)) := fun F H x y d e post Q hx r1 r2 hf k => by
  cases d with
  | int i =>
    cases e with
    | int j =>
      cases r1; cases r2
      exact ⟨i, j, rfl, rfl, k _ _ H F hf (Gr.refl hx) (.bl _)⟩
    | _ => exact hf.elim
  | _ => exact hf.elim
end
def CPowX (i j : Int) : Prop := 0 ≤ j ∧ (Builtin.Int.intBits i : Int) * j ≤ 2 ^ 27
/-- +: ints, texts, tuples, lists -/
def fAdd : BinF := fun d e post => match d, e with
  | .int i, .int j => post (.int (i + j))
  | .str x, .str y => x.length + y.length ≤ sizeLine ∧ post (.str (x ++ y))
  | .tuple xs, .tuple ys => xs ≠ [] ∧ xs.length + ys.length ≤ sizeLine ∧ post (.tuple (xs ++ ys))
  | .list xs, .list ys => xs.length + ys.length ≤ sizeLine ∧ post (.list (xs ++ ys))
  | _, _ => False
section
variable {X : Cx} {a b : Expr} {ta tb : DE} {pos : Pos}
theorem Rps.nil_iff {K : Fg} {F : Hp} {xs : List V} {ds : List Da} (h : Rps K F xs ds) : xs = [] ↔ ds = [] := by
  cases h <;> simp
theorem e_add (ha : PE X a (up X.K ta)) (hb : PE X b (up X.K tb)) : PE X (.BinOp a .Add b pos) (up X.K (dBin fAdd ta tb)) := by
  refine e_bin (or_op op_add (or_op op_add_str (or_op op_catT op_cat))) ?_ ha hb
  intro F H x y d e post Q hx r1 r2 hf k
  cases d with
  | int i =>
    cases e with
    | int j =>
      cases r1; cases r2
      exact .inl ⟨i, j, rfl, rfl, k _ _ H F hf (Gr.refl hx) (.int _)⟩
    | _ => exact hf.elim
  | str u =>
    cases e with
    | str w =>
      cases r1; cases r2
      exact .inr (.inl ⟨u, w, rfl, rfl, hf.1, k _ _ H F hf.2 (Gr.refl hx) (.str _)⟩)
    | _ => exact hf.elim
  | tuple ds =>
    cases e with
    | tuple es =>
      cases r1 with
      | tup s1 m1 =>
        cases r2 with
        | tup s2 m2 =>
          rename_i p1 xs p2 ys
          obtain ⟨h1, h2, h3⟩ := hf
          refine .inr (.inr (.inl ⟨p1, p2, xs, ys, rfl, rfl, ex_t hx s1, ex_t hx s2, fun z => h1 (m1.nil_iff.mp z), by rw [m1.len, m2.len]; exact h2, fun z => ?_, fun z p hp => ?_⟩))
          · have : es = [] := m2.nil_iff.mp z
            subst this
            rw [List.append_nil] at h3
            exact k _ _ H F h3 (Gr.refl hx) (.tup s1 m1)
          · have gr := Gr.new (o := .tup (xs ++ ys)) hx hp
            exact k _ _ _ _ h3 gr (.tup (.inl (.inl upd_same)) ((m1.up gr.f).app (m2.up gr.f)))
    | _ => exact hf.elim
  | list ds =>
    cases e with
    | list es =>
      cases r1 with
      | lst s1 m1 =>
        cases r2 with
        | lst s2 m2 =>
          rename_i p1 xs p2 ys
          obtain ⟨h2, h3⟩ := hf
          refine .inr (.inr (.inr ⟨p1, p2, xs, ys, rfl, rfl, hx _ _ s1, hx _ _ s2, by rw [m1.len, m2.len]; exact h2, fun p hp => ?_⟩))
          have gr := Gr.new (o := .lst (xs ++ ys)) hx hp
          exact k _ _ _ _ h3 gr (.lst upd_same ((m1.up gr.f).app (m2.up gr.f)))
    | _ => exact hf.elim
  | _ => exact hf.elim
theorem e_sub (ha : PE X a (up X.K ta)) (hb : PE X b (up X.K tb)) : PE X (.BinOp a .Sub b pos) (up X.K (dBin (fI0 fun i j => .int (i - j)) ta tb)) := e_bin op_sub ok_I0 ha hb
theorem e_mul (ha : PE X a (up X.K ta)) (hb : PE X b (up X.K tb)) : PE X (.BinOp a .Mult b pos) (up X.K (dBin (fI CMulX fun i j => .int (i * j)) ta tb)) := e_bin op_mulX ok_I ha hb
theorem e_div (ha : PE X a (up X.K ta)) (hb : PE X b (up X.K tb)) : PE X (.BinOp a .FloorDiv b pos) (up X.K (dBin (fI CDivW fun i j => .int (i / j)) ta tb)) := e_bin op_fdivW ok_I ha hb
theorem e_mod (ha : PE X a (up X.K ta)) (hb : PE X b (up X.K tb)) : PE X (.BinOp a .Mod b pos) (up X.K (dBin (fI (fun _ j => 0 < j) fun i j => .int (i % j)) ta tb)) := e_bin op_mod ok_I ha hb
theorem e_shl (ha : PE X a (up X.K ta)) (hb : PE X b (up X.K tb)) : PE X (.BinOp a .LShift b pos) (up X.K (dBin (fI CShl fun i j => .int (i * 2 ^ j.toNat)) ta tb)) := e_bin op_shlW ok_I ha hb
theorem e_shr (ha : PE X a (up X.K ta)) (hb : PE X b (up X.K tb)) : PE X (.BinOp a .RShift b pos) (up X.K (dBin (fI (fun _ j => 0 ≤ j) fun i j => .int (i / 2 ^ j.toNat)) ta tb)) := e_bin op_shr ok_I ha hb
theorem op_powX : OpR X (binaryOp .Pow) (rI CPowX fun i j => .int (i ^ j.toNat)) := opI fun _ _ _ _ _ _ _ hc q => pow_int hc.1 hc.2 q
theorem e_pow (ha : PE X a (up X.K ta)) (hb : PE X b (up X.K tb)) : PE X (.BinOp a .Pow b pos) (up X.K (dBin (fI CPowX fun i j => .int (i ^ j.toNat)) ta tb)) := e_bin op_powX ok_I ha hb
theorem e_band (ha : PE X a (up X.K ta)) (hb : PE X b (up X.K tb)) : PE X (.BinOp a .BitAnd b pos) (up X.K (dBin (fI0 fun i j => .int (Builtin.bitAnd i j)) ta tb)) := e_bin op_and ok_I0 ha hb
theorem e_lt (ha : PE X a (up X.K ta)) (hb : PE X b (up X.K tb)) : PE X (.Compare a [.Lt] [b] pos) (up X.K (dBin (fI0 fun i j => .bool (decide (i < j))) ta tb)) := e_cmp op_lt ok_I0b ha hb (nomark _)
theorem e_le (ha : PE X a (up X.K ta)) (hb : PE X b (up X.K tb)) : PE X (.Compare a [.LtE] [b] pos) (up X.K (dBin (fI0 fun i j => .bool (decide (i ≤ j))) ta tb)) := e_cmp op_le ok_I0b ha hb (nomark _)
theorem e_gt (ha : PE X a (up X.K ta)) (hb : PE X b (up X.K tb)) : PE X (.Compare a [.Gt] [b] pos) (up X.K (dBin (fI0 fun i j => .bool (decide (j < i))) ta tb)) := e_cmp op_gt ok_I0b ha hb (nomark _)
theorem e_ge (ha : PE X a (up X.K ta)) (hb : PE X b (up X.K tb)) : PE X (.Compare a [.GtE] [b] pos) (up X.K (dBin (fI0 fun i j => .bool (decide (j ≤ i))) ta tb)) := e_cmp op_ge ok_I0b ha hb (nomark _)
end
/-! == and != -/
section
variable {K : Fg} {F H : Hp}
mutual
theorem Rp.dp (e : Ex F H) : ∀ (d : Da) (v : V), Rp K F v d → d.canLay0 = true → Dp K H v d
  | .none, _, h, _ => by cases h; exact .non
  | .bool b, _, h, _ => by cases h; exact .bl b
  | .int i, _, h, _ => by cases h; exact .int i
  | .str x, _, h, _ => by cases h; exact .str x
  | .list ds, _, h, q => by cases h with | lst hs ha => exact .lst (.inl (.inl (e _ _ hs))) (Rps.dp e ds _ ha (by simpa [PyData.canLay0] using q))
  | .tuple ds, _, h, q => by cases h with | tup hs ha => exact .tup (ex_t e hs) (Rps.dp e ds _ ha (by simpa [PyData.canLay0] using q))
  | .dict es, _, h, q => by simp [PyData.canLay0] at q
theorem Rps.dp (e : Ex F H) : ∀ (ds : List Da) (vs : List V), Rps K F vs ds → PyData.canLayAll0 ds = true → DpAll K H vs ds
  | [], _, h, _ => by cases h; exact .nil
  | d :: ds, _, h, q => by
    cases h with
    | cons h1 h2 =>
      have q' : d.canLay0 = true ∧ PyData.canLayAll0 ds = true := by simpa [PyData.canLayAll0] using q
      exact .cons (Rp.dp e d _ h1 q'.1) (Rps.dp e ds _ h2 q'.2)
end
end
def fEq : BinF := fun d e post => SeqAt.shaped d = true ∧ SeqAt.shaped e = true ∧ post (.bool (d.eqv e))
def fNe : BinF := fun d e post => SeqAt.shaped d = true ∧ SeqAt.shaped e = true ∧ post (.bool (!d.eqv e))
theorem shaped_lay {d : Da} (h : SeqAt.shaped d = true) : d.canLay0 = true := by
  unfold SeqAt.shaped at h
  rw [Bool.and_eq_true] at h
  exact h.1
section
variable {X : Cx} {a b : Expr} {ta tb : DE} {pos : Pos}
theorem e_eq (hu : X.A.units + 64 < cLine) (ha : PE X a (up X.K ta)) (hb : PE X b (up X.K tb)) : PE X (.Compare a [.Eq] [b] pos) (up X.K (dBin fEq ta tb)) :=
  e_cmp (op_eqD hu) (fun F H x y d e post Q hx r1 r2 hf k => ⟨d, e, r1.dp hx d x (shaped_lay hf.1), r2.dp hx e y (shaped_lay hf.2.1), hf.1, hf.2.1, k _ _ H F hf.2.2 (Gr.refl hx) (.bl _)⟩) ha hb (nomark _)
theorem e_ne (hu : X.A.units + 64 < cLine) (ha : PE X a (up X.K ta)) (hb : PE X b (up X.K tb)) : PE X (.Compare a [.NotEq] [b] pos) (up X.K (dBin fNe ta tb)) :=
  e_cmp (op_neD hu) (fun F H x y d e post Q hx r1 r2 hf k => ⟨d, e, r1.dp hx d x (shaped_lay hf.1), r2.dp hx e y (shaped_lay hf.2.1), hf.1, hf.2.1, k _ _ H F hf.2.2 (Gr.refl hx) (.bl _)⟩) ha hb (nomark _)
end
/-! in, not in: flat data -/
def flatD : Da → Bool
  | .none => true
  | .bool _ => true
  | .int _ => true
  | .str _ => true
  | _ => false
def inD (d : Da) (es : List Da) : Bool := es.any fun y => y.eqv d
def fIn (neg : Bool) : BinF := fun d e post => match e with
  | .tuple es => flatD d = true ∧ es.all flatD = true ∧ post (.bool (if neg then !inD d es else inD d es))
  | .list es => flatD d = true ∧ es.all flatD = true ∧ post (.bool (if neg then !inD d es else inD d es))
  | _ => False
section
variable {K : Fg} {F H : Hp}
theorem flat_v {v : V} {d : Da} (r : Rp K F v d) (h : flatD d = true) : flatV v = true := by
  cases r <;> first | rfl | exact absurd (show false = true from h) Bool.false_ne_true
theorem eqv_v {v w : V} {d e : Da} (r : Rp K F v d) (q : Rp K F w e) (h : flatD d = true) (h' : flatD e = true) : eqV v w = d.eqv e := by
  cases r <;> first | exact absurd (show false = true from h) Bool.false_ne_true | (cases q <;> first | exact absurd (show false = true from h') Bool.false_ne_true | (simp [eqV, PyData.eqv]))
theorem flat_vs : ∀ {vs : List V} {ds : List Da}, Rps K F vs ds → ds.all flatD = true → vs.all flatV = true
  | _, _, .nil, _ => rfl
  | _, _, .cons r t, h => by
    rw [List.all_cons, Bool.and_eq_true] at h ⊢
    exact ⟨flat_v r h.1, flat_vs t h.2⟩
theorem in_v {x : V} {d : Da} (r : Rp K F x d) (hd : flatD d = true) : ∀ {vs : List V} {ds : List Da}, Rps K F vs ds → ds.all flatD = true → inV x vs = inD d ds
  | _, _, .nil, _ => rfl
  | _, _, .cons q t, h => by
    rw [List.all_cons, Bool.and_eq_true] at h
    have ih := in_v r hd t h.2
    unfold inV inD at ih ⊢
    rw [List.any_cons, List.any_cons, ih, eqv_v q r h.1 hd]
theorem ok_in {neg : Bool} : BinOk K (rIn K neg) (fIn neg) := fun F H x y d e post Q hx r1 r2 hf k => by
  cases e with
  | tuple es =>
    cases r2 with
    | tup s1 m1 =>
      obtain ⟨h1, h2, h3⟩ := hf
      refine ⟨_, _, rfl, .inr (ex_t hx s1), flat_v r1 h1, flat_vs m1 h2, ?_⟩
      rw [in_v r1 h1 m1 h2]
      exact k _ _ H F h3 (Gr.refl hx) (.bl _)
  | list es =>
    cases r2 with
    | lst s1 m1 =>
      obtain ⟨h1, h2, h3⟩ := hf
      refine ⟨_, _, rfl, .inl (.inl (.inl (hx _ _ s1))), flat_v r1 h1, flat_vs m1 h2, ?_⟩
      rw [in_v r1 h1 m1 h2]
      exact k _ _ H F h3 (Gr.refl hx) (.bl _)
  | _ => exact hf.elim
end
section
variable {X : Cx} {a b : Expr} {ta tb : DE} {pos : Pos}
theorem e_in (ha : PE X a (up X.K ta)) (hb : PE X b (up X.K tb)) (hm : behindInMarks .In b = false := by rfl) : PE X (.Compare a [.In] [b] pos) (up X.K (dBin (fIn false) ta tb)) := e_cmp op_in_seq ok_in ha hb hm
theorem e_notin (ha : PE X a (up X.K ta)) (hb : PE X b (up X.K tb)) (hm : behindInMarks .NotIn b = false := by rfl) : PE X (.Compare a [.NotIn] [b] pos) (up X.K (dBin (fIn true) ta tb)) := e_cmp op_notIn_seq ok_in ha hb hm
end
end Z

namespace Z
open L2 PySem PySem.Spec PyProof.Rows
open Evl (Ex ex_l ex_t ex_rd fresh_back)

/-! ### tests, and, or, not, a if t else b -/
def dTest (t : DE) : DT := fun g Q => t g fun r g1 => match r with
  | .val (.bool b) => Q b g1
  | _ => False
def dAndT (ta tb : DT) : DT := fun g Q => ta g fun b g1 => (b = true → tb g1 Q) ∧ (b = false → Q false g1)
def dOrT (ta tb : DT) : DT := fun g Q => ta g fun b g1 => (b = true → Q true g1) ∧ (b = false → tb g1 Q)
def dNotT (ta : DT) : DT := fun g Q => ta g fun b g1 => Q (!b) g1
def dAndV (ta tb : DE) : DE := fun g Q => ta g fun r g1 => match r with
  | .val (.bool b) => (b = true → tb g1 Q) ∧ (b = false → Q (.val (.bool false)) g1)
  | _ => False
def dOrV (ta tb : DE) : DE := fun g Q => ta g fun r g1 => match r with
  | .val (.bool b) => (b = true → Q (.val (.bool true)) g1) ∧ (b = false → tb g1 Q)
  | _ => False
def dNotV (ta : DE) : DE := fun g Q => ta g fun r g1 => match r with
  | .val (.bool b) => Q (.val (.bool (!b))) g1
  | _ => False
def dIf (t : DT) (ta tb : DE) : DE := fun g Q => t g fun b g1 => (b = true → ta g1 Q) ∧ (b = false → tb g1 Q)
section
variable {K : Fg} {F : Hp} {a : Addr} {fu : Option Nat} {v : V}
theorem RvOk.bl {r : Rv} (h : RvOk K F a fu v r) {b : Bool} (e : r = .val (.bool b)) : v = .bl b := by
  subst e
  have h' : Rp K F v (.bool b) := h
  cases h'; rfl
end
section
variable {X : Cx} {a b c e : Expr} {ta tb t : DE} {sa sb : DT} {pos : Pos} {rest : List Expr}
theorem t_val (h : PE X e (up X.K t)) (hw : ∀ whole : Sem Value, isTrue e X.env whole = (do
    let v ← whole
    standAt e.pos
    holding [v] (truthy v)) := by intro _; rfl) : PT X e (upT X.K (dTest t)) := pt_to (pt_val h hw) fun σ H Q q => by
  obtain ⟨c, g, tv, tr, F, ad, post, s, t1, k⟩ := q
  refine ⟨c, g, tv, tr, F, ad, _, s, t1, fun r g1 v1 H1 F1 a1 h1 s1 => ?_⟩
  cases r with
  | val d =>
    cases d with
    | bool b => exact ⟨b, s1.top.bl rfl, k b g1 H1 F1 a1 h1 s1.pop1⟩
    | _ => exact h1.elim
  | _ => exact h1.elim
theorem w_and (h1 : PT X a (upT X.K sa)) (h2 : PW X (.BoolOp .And (b :: rest) pos) (upT X.K sb)) : PW X (.BoolOp .And (a :: b :: rest) pos) (upT X.K (dAndT sa sb)) := pw_to (pw_and h1 h2) fun σ H Q q => by
  obtain ⟨c, g, tv, tr, F, ad, post, s, t1, k⟩ := q
  refine ⟨c, g, tv, tr, F, ad, _, s, t1, fun b g1 H1 F1 a1 h1 s1 => ?_⟩
  cases b with
  | true => rw [if_pos rfl]; exact ⟨c, g1, tv, tr, F1, a1, _, s1, h1.1 rfl, k⟩
  | false => rw [if_neg Bool.false_ne_true]; exact k false g1 H1 F1 a1 (h1.2 rfl) s1
theorem w_and1 (h1 : PT X a (upT X.K sa)) : PW X (.BoolOp .And [a] pos) (upT X.K sa) := pw_and1 h1
theorem w_or (h1 : PT X a (upT X.K sa)) (h2 : PW X (.BoolOp .Or (b :: rest) pos) (upT X.K sb)) : PW X (.BoolOp .Or (a :: b :: rest) pos) (upT X.K (dOrT sa sb)) := pw_to (pw_or h1 h2) fun σ H Q q => by
  obtain ⟨c, g, tv, tr, F, ad, post, s, t1, k⟩ := q
  refine ⟨c, g, tv, tr, F, ad, _, s, t1, fun b g1 H1 F1 a1 h1 s1 => ?_⟩
  cases b with
  | true => rw [if_pos rfl]; exact k true g1 H1 F1 a1 (h1.1 rfl) s1
  | false => rw [if_neg Bool.false_ne_true]; exact ⟨c, g1, tv, tr, F1, a1, _, s1, h1.2 rfl, k⟩
theorem w_or1 (h1 : PT X a (upT X.K sa)) : PW X (.BoolOp .Or [a] pos) (upT X.K sa) := pw_or1 h1
theorem t_not (h1 : PT X a (upT X.K sa)) : PT X (.UnaryOp .Not a pos) (upT X.K (dNotT sa)) := pt_to (pt_not h1) fun σ H Q q => by
  obtain ⟨c, g, tv, tr, F, ad, post, s, t1, k⟩ := q
  exact ⟨c, g, tv, tr, F, ad, _, s, t1, fun b g1 H1 F1 a1 h1 s1 => k _ g1 H1 F1 a1 h1 s1⟩
theorem e_and (h1 : PE X a (up X.K ta)) (h2 : PE X (.BoolOp .And (b :: rest) pos) (up X.K tb)) : PE X (.BoolOp .And (a :: b :: rest) pos) (up X.K (dAndV ta tb)) := pe_to (pe_and h1 h2) fun σ H Q q => by
  obtain ⟨c, g, tv, tr, F, ad, post, s, t1, k⟩ := q
  refine ⟨c, g, tv, tr, F, ad, _, s, t1, fun r g1 v1 H1 F1 a1 h1 s1 => ?_⟩
  cases r with
  | val d =>
    cases d with
    | bool b =>
      refine ⟨b, s1.top.bl rfl, ?_⟩
      cases b with
      | true => rw [if_pos rfl]; exact ⟨c, g1, tv, tr, F1, a1, _, s1.pop1, h1.1 rfl, k⟩
      | false => rw [if_neg Bool.false_ne_true]; exact k _ g1 _ H1 F1 a1 (h1.2 rfl) (s1.pop1.push (r := .val (.bool false)) (Rp.bl false))
    | _ => exact h1.elim
  | _ => exact h1.elim
theorem e_or (h1 : PE X a (up X.K ta)) (h2 : PE X (.BoolOp .Or (b :: rest) pos) (up X.K tb)) : PE X (.BoolOp .Or (a :: b :: rest) pos) (up X.K (dOrV ta tb)) := pe_to (pe_or h1 h2) fun σ H Q q => by
  obtain ⟨c, g, tv, tr, F, ad, post, s, t1, k⟩ := q
  refine ⟨c, g, tv, tr, F, ad, _, s, t1, fun r g1 v1 H1 F1 a1 h1 s1 => ?_⟩
  cases r with
  | val d =>
    cases d with
    | bool b =>
      refine ⟨b, s1.top.bl rfl, ?_⟩
      cases b with
      | true => rw [if_pos rfl]; exact k _ g1 _ H1 F1 a1 (h1.1 rfl) (s1.pop1.push (r := .val (.bool true)) (Rp.bl true))
      | false => rw [if_neg Bool.false_ne_true]; exact ⟨c, g1, tv, tr, F1, a1, _, s1.pop1, h1.2 rfl, k⟩
    | _ => exact h1.elim
  | _ => exact h1.elim
theorem e_one {op : BoolOp} (h1 : PE X a (up X.K ta)) : PE X (.BoolOp op [a] pos) (up X.K ta) := pe_one h1
theorem e_not (h1 : PE X a (up X.K ta)) : PE X (.UnaryOp .Not a pos) (up X.K (dNotV ta)) := pe_to (pe_not h1) fun σ H Q q => by
  obtain ⟨c, g, tv, tr, F, ad, post, s, t1, k⟩ := q
  refine ⟨c, g, tv, tr, F, ad, _, s, t1, fun r g1 v1 H1 F1 a1 h1 s1 => ?_⟩
  cases r with
  | val d =>
    cases d with
    | bool b => exact ⟨b, s1.top.bl rfl, k _ g1 _ H1 F1 a1 h1 (s1.pop1.push (r := .val (.bool (!b))) (Rp.bl (!b)))⟩
    | _ => exact h1.elim
  | _ => exact h1.elim
theorem e_if (h : PT X c (upT X.K sa)) (h1 : PE X a (up X.K ta)) (h2 : PE X b (up X.K tb)) : PE X (.IfExp c a b pos) (up X.K (dIf sa ta tb)) := pe_to (pe_ifExp h h1 h2) fun σ H Q q => by
  obtain ⟨c, g, tv, tr, F, ad, post, s, t1, k⟩ := q
  refine ⟨c, g, tv, tr, F, ad, _, s, t1, fun b g1 H1 F1 a1 h1 s1 => ?_⟩
  cases b with
  | true => rw [if_pos rfl]; exact ⟨c, g1, tv, tr, F1, a1, _, s1, h1.1 rfl, k⟩
  | false => rw [if_neg Bool.false_ne_true]; exact ⟨c, g1, tv, tr, F1, a1, _, s1, h1.2 rfl, k⟩
/-- -a -/
def dNeg (ta : DE) : DE := fun g Q => ta g fun r g1 => match r with
  | .val (.int i) => Q (.val (.int (-i))) g1
  | _ => False
theorem e_neg (h1 : PE X a (up X.K ta)) : PE X (.UnaryOp .USub a pos) (up X.K (dNeg ta)) := pe_to (pe_un un_neg h1) fun σ H Q q => by
  obtain ⟨c, g, tv, tr, F, ad, post, s, t1, k⟩ := q
  refine ⟨c, g, tv, tr, F, ad, _, s, t1, fun r g1 v1 H1 F1 a1 h1 s1 => ?_⟩
  cases r with
  | val d =>
    cases d with
    | int i =>
      have hr : Rp X.K F1 v1 (.int i) := s1.top
      cases hr
      exact ⟨i, rfl, k _ g1 _ H1 F1 a1 h1 (s1.pop1.push (r := .val (.int (-i))) (Rp.int (-i)))⟩
    | _ => exact h1.elim
  | _ => exact h1.elim
/-- x is None, x is not None -/
def isNon : Da → Bool
  | .none => true
  | _ => false
def dIsN (neg : Bool) (ta : DE) : DE := fun g Q => ta g fun r g1 => match r with
  | .val d => Q (.val (.bool (if neg then !isNon d else isNon d))) g1
  | _ => False
theorem non_v {K : Fg} {F : Hp} {v : V} {d : Da} (h : Rp K F v d) : decide (v = .non) = isNon d := by
  cases h <;> simp [isNon]
theorem e_isN {j : Nat} {pos' : Pos} (h1 : PE X a (up X.K ta)) : PE X (.Compare a [.Is] [.Constant .none j pos'] pos) (up X.K (dIsN false ta)) := pe_to (pe_cmp (pc_isN h1) rfl) fun σ H Q q => by
  obtain ⟨c, g, tv, tr, F, ad, post, s, t1, k⟩ := q
  refine ⟨c, g, tv, tr, F, ad, _, s, t1, fun r g1 v1 H1 F1 a1 h1 s1 => ?_⟩
  cases r with
  | val d =>
    have hr : Rp X.K F1 v1 d := s1.top
    rw [non_v hr]
    exact k _ g1 _ H1 F1 a1 h1 (s1.pop1.push (r := .val (.bool (isNon d))) (Rp.bl _))
  | _ => exact h1.elim
theorem e_notN {j : Nat} {pos' : Pos} (h1 : PE X a (up X.K ta)) : PE X (.Compare a [.IsNot] [.Constant .none j pos'] pos) (up X.K (dIsN true ta)) := pe_to (pe_cmp (pc_notN h1) rfl) fun σ H Q q => by
  obtain ⟨c, g, tv, tr, F, ad, post, s, t1, k⟩ := q
  refine ⟨c, g, tv, tr, F, ad, _, s, t1, fun r g1 v1 H1 F1 a1 h1 s1 => ?_⟩
  cases r with
  | val d =>
    have hr : Rp X.K F1 v1 d := s1.top
    rw [non_v hr]
    exact k _ g1 _ H1 F1 a1 h1 (s1.pop1.push (r := .val (.bool (!isNon d))) (Rp.bl _))
  | _ => exact h1.elim
/-- a < b < c -/
def dChain (f f' : BinF) (ta tb tc : DE) : DE := fun g Q => ta g fun x g1 => tb g1 fun y g2 => match x, y with
  | .val d, .val e => f d e fun z => match z with
    | .bool true => tc g2 fun w g3 => match w with
      | .val h => f' e h fun z' => Q (.val z') g3
      | _ => False
    | .bool false => Q (.val (.bool false)) g2
    | _ => False
  | _, _ => False
end
end Z

namespace Z
open L2 PySem PySem.Spec PyProof.Rows
open Evl (Ex ex_l ex_t ex_rd fresh_back)
section
variable {X : Cx} {a b c e : Expr} {ta tb tc t : DE} {pos : Pos}
theorem chain_core {r r' : R2} {f f' : BinF} (hf : BinOk X.K r f) (hf' : BinOk X.K r' f') {σ : L2.St} {H : Hp} {Q : VK} (q : up X.K (dChain f f' ta tb tc) σ H Q) : tChain r r' (up X.K ta) (up X.K tb) (up X.K tc) σ H Q := by
  obtain ⟨c, g, tv, tr, F, ad, post, s, t, k⟩ := q
  refine ⟨c, g, tv, tr, F, ad, _, s, t, fun x g1 v1 H1 F1 a1 t1 s1 => ?_⟩
  refine ⟨c, g1, _, _, F1, a1, _, s1, t1, fun y g2 v2 H2 F2 a2 t2 s2 => ?_⟩
  cases x with
  | val d =>
    cases y with
    | val e =>
      have r1 : Rp X.K F2 v1 d := s2.pop1.top
      have r2 : Rp X.K F2 v2 e := s2.top
      refine hf F2 H2 v1 v2 d e _ _ s2.eh r1 r2 t2 fun z v H3 F3 hz gr rz => ?_
      cases z with
      | bool k1 =>
        cases rz
        have s3 := s2.grow gr
        refine ⟨k1, rfl, ?_⟩
        cases k1 with
        | true =>
          rw [if_pos rfl]
          refine ⟨c, g2, _, _, F3, a2, _, s3, hz, fun w g4 v4 H4 F4 a4 t4 s4 => ?_⟩
          cases w with
          | val h =>
            have q2 : Rp X.K F4 v2 e := s4.pop1.top
            have q4 : Rp X.K F4 v4 h := s4.top
            exact hf' F4 H4 v2 v4 e h _ _ s4.eh q2 q4 t4 fun z' v' H5 F5 hz' gr' rz' => k _ g4 v' H5 F5 a4 hz' ((s4.pop1.pop1.pop1.grow gr').push (r := .val z') rz')
          | _ => exact t4.elim
        | false =>
          rw [if_neg Bool.false_ne_true]
          exact k _ g2 _ H3 F3 a2 hz (s3.pop1.pop1.push (r := .val (.bool false)) (Rp.bl false))
      | _ => exact hz.elim
    | _ => exact t2.elim
  | _ => exact t2.elim
theorem e_chain {op op' : CmpOp} {r r' : R2} {f f' : BinF} (ho : OpR X (compareOp op) r) (ho' : OpR X (compareOp op') r') (hf : BinOk X.K r f) (hf' : BinOk X.K r' f') (ha : PE X a (up X.K ta)) (hb : PE X b (up X.K tb)) (hc : PE X c (up X.K tc))
    (hm : lastMarks [op, op'] [b, c] = false := by with_unfolding_all rfl) : PE X (.Compare a [op, op'] [b, c] pos) (up X.K (dChain f f' ta tb tc)) := pe_to (pe_chain ho ho' ha hb hc hm) fun _ _ _ q => chain_core hf hf' q
theorem e_lele (ha : PE X a (up X.K ta)) (hb : PE X b (up X.K tb)) (hc : PE X c (up X.K tc)) (hm : lastMarks [.LtE, .LtE] [b, c] = false := by with_unfolding_all rfl) :
    PE X (.Compare a [.LtE, .LtE] [b, c] pos) (up X.K (dChain (fI0 fun i j => .bool (decide (i ≤ j))) (fI0 fun i j => .bool (decide (i ≤ j))) ta tb tc)) := e_chain op_le op_le ok_I0b ok_I0b ha hb hc hm
theorem e_lelt (ha : PE X a (up X.K ta)) (hb : PE X b (up X.K tb)) (hc : PE X c (up X.K tc)) (hm : lastMarks [.LtE, .Lt] [b, c] = false := by with_unfolding_all rfl) :
    PE X (.Compare a [.LtE, .Lt] [b, c] pos) (up X.K (dChain (fI0 fun i j => .bool (decide (i ≤ j))) (fI0 fun i j => .bool (decide (i < j))) ta tb tc)) := e_chain op_le op_lt ok_I0b ok_I0b ha hb hc hm
end
/-! ### arguments, displays -/
def dNil : DA := fun g Q => Q [] g
def dCons (te : DE) (tr : DA) : DA := fun g Q => te g fun x g1 => tr g1 fun xs g2 => Q (x :: xs) g2
section
variable {K : Fg} {F : Hp} {a : Addr} {fu : Option Nat}
theorem Tm.app : ∀ {xs ys : List V} {rs ts : List Rv}, Tm K F a fu xs rs → Tm K F a fu ys ts → Tm K F a fu (xs ++ ys) (rs ++ ts)
  | _, _, _, _, .nil, s => s
  | _, _, _, _, .cons r t, s => .cons r (t.app s)
theorem Tm.rev : ∀ {xs : List V} {rs : List Rv}, Tm K F a fu xs rs → Tm K F a fu xs.reverse rs.reverse
  | _, _, .nil => .nil
  | _, _, .cons r t => by
    rw [List.reverse_cons, List.reverse_cons]
    exact t.rev.app (.cons r .nil)
theorem Tm.split : ∀ {xs ys : List V} {rs ts : List Rv}, xs.length = rs.length → Tm K F a fu (xs ++ ys) (rs ++ ts) → Tm K F a fu xs rs ∧ Tm K F a fu ys ts
  | [], _, [], _, _, h => ⟨.nil, h⟩
  | [], _, _ :: _, _, e, _ => by simp at e
  | _ :: _, _, [], _, e, _ => by simp at e
  | x :: xs, ys, r :: rs, ts, e, h => by
    have h' : Tm K F a fu (x :: (xs ++ ys)) (r :: (rs ++ ts)) := h
    cases h' with
    | cons h1 h2 =>
      obtain ⟨q1, q2⟩ := Tm.split (by simpa using e) h2
      exact ⟨.cons h1 q1, q2⟩
theorem Tm.args {vs tv : List V} {rs tr : List Rv} (h : Tm K F a fu (vs.reverse ++ tv) (rs.reverse ++ tr)) (e : vs.length = rs.length) : Tm K F a fu vs rs ∧ Tm K F a fu tv tr := by
  obtain ⟨h1, h2⟩ := Tm.split (by simpa using e) h
  have := h1.rev
  rw [List.reverse_reverse, List.reverse_reverse] at this
  exact ⟨this, h2⟩
end
def valsD : List Rv → Option (List Da)
  | [] => some []
  | .val d :: rs => (valsD rs).map (d :: ·)
  | _ :: _ => none
theorem Tm.vals {K : Fg} {F : Hp} {a : Addr} {fu : Option Nat} : ∀ {vs : List V} {rs : List Rv} {ds : List Da}, Tm K F a fu vs rs → valsD rs = some ds → Rps K F vs ds
  | _, _, _, .nil, e => by cases e; exact .nil
  | _, .val d :: rs, ds, .cons h t, e => by
    unfold valsD at e
    cases q : valsD rs with
    | none => rw [q] at e; cases e
    | some es =>
      rw [q] at e
      cases e
      exact .cons h (t.vals q)
  | _, .src :: rs, ds, .cons h t, e => by cases e
  | _, .scr _ :: rs, ds, .cons h t, e => by cases e
  | _, .ob _ :: rs, ds, .cons h t, e => by cases e
def dTup (ta : DA) : DE := fun g Q => ta g fun rs g1 => match valsD rs with
  | some ds => ds.length ≤ 1000000 ∧ Q (.val (.tuple ds)) g1
  | none => False
def dLst (ta : DA) : DL := fun g Q => ta g fun rs g1 => match valsD rs with
  | some ds => ds.length ≤ 1000000 ∧ Q ds g1
  | none => False
def dFz (t : DL) : DE := fun g Q => t g fun ds g1 => Q (.val (.list ds)) g1
theorem mil {n : Nat} (h : n ≤ 1000000) : n ≤ sizeLine := Nat.le_trans h (by decide)
section
variable {K : Fg} {c : Con} {g : Gs} {σ : L2.St} {H F : Hp} {tv : List V} {tr : List Rv} {a : Addr}
/-- the new list stands still from now on -/
theorem Sta.still (s : Sta K c g σ H tv tr F a) {v : V} {ds : List Da} (h : NewL K c g σ H F a v ds) : ∃ F', Sta K c g σ H (v :: tv) (.val (.list ds) :: tr) F' a := by
  obtain ⟨o, xs, rfl, q2, q3, q4, q5, q6, q7⟩ := h.ex
  have ef : Ex F (upd F o (.lst xs)) := Ex.new q2
  have ro : Rp K (upd F o (.lst xs)) (.ref o) (.list ds) := .lst upd_same (q5.up ef)
  refine ⟨upd F o (.lst xs), s.e0.trans ef, fun b u q => ?_, s.keep, fun b q => ?_, s.ex, s.ow, fun n hn => ?_, .cons ro (s.tmp.up ef), s.len, fun j sv hj => ?_, s.dis⟩
  · by_cases hb : b = o
    · subst hb; rw [upd_same] at q; cases q; exact q4
    · rw [upd_ne hb] at q; exact s.eh b u q
  · by_cases hb : b = o
    · subst hb; exact .inr q3
    · rw [upd_ne hb] at q; exact s.new b q
  · obtain ⟨z1, z2⟩ := s.src n hn
    refine ⟨?_, z2⟩
    rw [upd_ne (fun z => q6 (ne_none hn) z.symm)]; exact z1
  · obtain ⟨v, w1, w2⟩ := s.slot j sv hj
    refine ⟨v, w1, ?_⟩
    cases sv with
    | val d => exact Rp.up w2 ef
    | src => exact w2
    | scr ns => obtain ⟨b, z1, z2⟩ := w2; exact ⟨b, z1, ex_l ef z2⟩
    | ob k => exact ObOk.up ef w2
    | own es =>
      obtain ⟨o', ys, r1, r2, r3, r4, r5, r6⟩ := w2
      have ne : o' ≠ o := fun z => q7 j es hj (by rw [w1, r1, z])
      exact ⟨o', ys, r1, by rw [upd_ne ne]; exact r2, r3, r4, r5.up ef, r6⟩
/-- a list laid at a free address -/
theorem Sta.laid (s : Sta K c g σ H tv tr F a) {p : Addr} (hp : H p = none) {xs : List V} {ds : List Da} (m : Rps K F xs ds) : Sta K c g σ (upd H p (.lst xs)) tv tr F a ∧ NewL K c g σ (upd H p (.lst xs)) F a (.ref p) ds := by
  have fp : F p = none := fresh_back s.eh hp
  have eH : Ex H (upd H p (.lst xs)) := Ex.new hp
  refine ⟨s.grow ⟨Ex.refl _, eH, s.eh.trans eH, fun b h => .inl h⟩, ⟨p, xs, rfl, fp, s.fresh hp, upd_same, m, fun hf z => ?_, fun i es hi z => ?_⟩⟩
  · cases q : g.fu with
    | none => exact hf q
    | some n =>
      obtain ⟨_, _, x, y, w, e, _⟩ := s.src n q
      rw [← z, hp] at e; cases e
  · obtain ⟨v, w1, o, ys, r1, r2, r3, r4, _⟩ := s.slot i _ hi
    rw [z] at w1
    cases w1
    cases r1
    rw [hp] at r4; cases r4
end
section
variable {X : Cx} {e : Expr} {es : List Expr} {te : DE} {tr : DA} {tl : DL} {pos : Pos}
theorem a_nil : PA X [] (upA X.K dNil) := pa_to pa_nil fun σ H Q q => by
  obtain ⟨c, g, tv, tr, F, ad, post, s, t, k⟩ := q
  exact k [] g [] H F ad t s rfl
theorem a_cons (h : PE X e (up X.K te)) (hr : PA X es (upA X.K tr)) (hs : starEach (e :: es) X.env = (false, eval e X.env) :: starEach es X.env := by rfl) : PA X (e :: es) (upA X.K (dCons te tr)) := pa_to (pa_cons h hr hs) fun σ H Q q => by
  obtain ⟨c, g, tv, tr, F, ad, post, s, t, k⟩ := q
  refine ⟨c, g, tv, tr, F, ad, _, s, t, fun x g1 v1 H1 F1 a1 t1 s1 => ?_⟩
  refine ⟨c, g1, _, _, F1, a1, _, s1, t1, fun xs g2 vs H2 F2 a2 t2 s2 hl => ?_⟩
  refine k (x :: xs) g2 (v1 :: vs) H2 F2 a2 t2 ?_ (by simp [hl])
  rw [List.reverse_cons, List.reverse_cons, List.append_assoc, List.append_assoc]
  exact s2
theorem e_tup {x1 : Nat} (h : PA X es (upA X.K tr)) : PE X (.Tuple es x1 pos) (up X.K (dTup tr)) := pe_to (pe_tup h) fun σ H Q q => by
  obtain ⟨c, g, tv, tr, F, ad, post, s, t, k⟩ := q
  refine ⟨c, g, tv, tr, F, ad, _, s, t, fun rs g1 vs H1 F1 a1 t1 s1 hl => ?_⟩
  cases q : valsD rs with
  | none => rw [q] at t1; exact t1.elim
  | some ds =>
    rw [q] at t1
    obtain ⟨m1, m2⟩ := s1.tmp.args hl
    have hv := m1.vals q
    refine ⟨by rw [hv.len]; exact mil t1.1, fun p hp => ?_⟩
    have gr := Gr.new (o := .tup vs) s1.eh hp
    exact k _ g1 _ _ _ a1 t1.2 (((s1.pop m2).grow gr).push (r := .val (.tuple ds)) (.tup (.inl (.inl upd_same)) (hv.up gr.f)))
theorem e_lstL (h : PA X es (upA X.K tr)) : PE X (.List es pos) (upL X.K (dLst tr)) := pe_to (pe_lst h) fun σ H Q q => by
  obtain ⟨c, g, tv, tr, F, ad, post, s, t, k⟩ := q
  refine ⟨c, g, tv, tr, F, ad, _, s, t, fun rs g1 vs H1 F1 a1 t1 s1 hl => ?_⟩
  cases q : valsD rs with
  | none => rw [q] at t1; exact t1.elim
  | some ds =>
    rw [q] at t1
    obtain ⟨m1, m2⟩ := s1.tmp.args hl
    have hv := m1.vals q
    refine ⟨by rw [hv.len]; exact mil t1.1, fun p hp => ?_⟩
    obtain ⟨s2, n2⟩ := (s1.pop m2).laid hp hv
    exact k ds g1 _ _ F1 a1 t1.2 s2 n2
theorem e_fz (h : PE X e (upL X.K tl)) : PE X e (up X.K (dFz tl)) := pe_to h fun σ H Q q => by
  obtain ⟨c, g, tv, tr, F, ad, post, s, t, k⟩ := q
  refine ⟨c, g, tv, tr, F, ad, _, s, t, fun ds g1 v H1 F1 a1 t1 s1 n1 => ?_⟩
  obtain ⟨F2, s2⟩ := s1.still n1
  exact k _ g1 v H1 F2 a1 t1 s2
theorem e_lst (h : PA X es (upA X.K tr)) : PE X (.List es pos) (up X.K (dFz (dLst tr))) := e_fz (e_lstL h)
end
/-! ### subscripts -/
def dIx (ta tb : DE) : DE := fun g Q => ta g fun x g1 => tb g1 fun y g2 => match x, y with
  | .val (.tuple ds), .val (.int i) => (match atI ds i with | some z => Q (.val z) g2 | none => False)
  | .val (.list ds), .val (.int i) => (match atI ds i with | some z => Q (.val z) g2 | none => False)
  | .scr ns, .val (.int i) => (match atI ns i with | some z => Q (.val (.int z)) g2 | none => False)
  | _, _ => False
theorem atI_get {K : Fg} {F : Hp} {vs : List V} {ds : List Da} {i : Int} {d : Da} (h : Rps K F vs ds) (e : atI ds i = some d) : ∃ v, atI vs i = some v ∧ Rp K F v d := by
  unfold atI at e ⊢
  rw [h.len]
  cases q : ixN ds.length i with
  | none => rw [q] at e; cases e
  | some j =>
    rw [q] at e
    exact h.get e
section
variable {X : Cx} {a b : Expr} {ta tb : DE} {pos : Pos}
theorem e_ix (ha : PE X a (up X.K ta)) (hb : PE X b (up X.K tb)) (hs : PlainIx b := by exact fun _ _ => rfl) : PE X (.Subscript a b pos) (up X.K (dIx ta tb)) := pe_to (pe_ix ix_seq ha hb hs) fun σ H Q q => by
  obtain ⟨c, g, tv, tr, F, ad, post, s, t, k⟩ := q
  refine ⟨c, g, tv, tr, F, ad, _, s, t, fun x g1 v1 H1 F1 a1 t1 s1 => ?_⟩
  refine ⟨c, g1, _, _, F1, a1, _, s1, t1, fun y g2 v2 H2 F2 a2 t2 s2 => ?_⟩
  have hx := s2.pop1.top
  have hy := s2.top
  have s3 := s2.pop1.pop1
  split at t2
  · rename_i ds i
    split at t2
    · rename_i z e
      have hy' : Rp X.K F2 v2 (.int i) := hy
      have hx' : Rp X.K F2 v1 (.tuple ds) := hx
      cases hy'
      cases hx' with
      | tup sq m =>
        obtain ⟨w, e1, e2⟩ := atI_get m e
        exact .inr (.inl ⟨_, _, i, w, rfl, rfl, ex_t s2.eh sq, e1, k _ g2 w H2 F2 a2 t2 (s3.push (r := .val z) e2)⟩)
    · exact t2.elim
  · rename_i ds i
    split at t2
    · rename_i z e
      have hy' : Rp X.K F2 v2 (.int i) := hy
      have hx' : Rp X.K F2 v1 (.list ds) := hx
      cases hy'
      cases hx' with
      | lst sq m =>
        obtain ⟨w, e1, e2⟩ := atI_get m e
        exact .inl ⟨_, _, i, w, rfl, rfl, .inl (.inl (s2.eh _ _ sq)), e1, k _ g2 w H2 F2 a2 t2 (s3.push (r := .val z) e2)⟩
    · exact t2.elim
  · rename_i ns i
    split at t2
    · rename_i z e
      have hy' : Rp X.K F2 v2 (.int i) := hy
      cases hy'
      obtain ⟨p, rfl, sq⟩ := hx
      have e' : atI (ns.map V.int) i = some (.int z) := by
        unfold atI at e ⊢
        rw [List.length_map]
        cases q : ixN ns.length i with
        | none => rw [q] at e; cases e
        | some j =>
          rw [q] at e
          show (ns.map V.int)[j]? = _
          rw [List.getElem?_map, show ns[j]? = some z from e]
          rfl
      exact .inl ⟨p, _, i, _, rfl, rfl, ex_l s2.eh sq, e', k _ g2 _ H2 F2 a2 t2 (s3.push (r := .val (.int z)) (Rp.int z))⟩
    · exact t2.elim
  · exact t2.elim
end
end Z

namespace Z
open L2 PySem PySem.Spec PyProof.Rows
open Evl (Ex ex_l ex_t ex_rd fresh_back)

/-! ### a def's promise, with the guards known (repr asks for them) -/
structure Fn (P : Program) (w : World) (K : Fg) (mg : Str → Option Value) (base : Heap) (CX : CXT) (k : Nat) (f : Addr) (fd : FuncData) (ps : List Str) (sp : Sp) : Prop where
  len : ∀ vs H Q E, sp vs H Q E → vs.length = ps.length
  run : ∀ (A : Around) (outer : List Env) (s : Shared) (H : Hp) (args : Args) (us : List Value) (vs : List V) (Q : VK) (E : XK), Room k A → A.guards = some [] →
    Env0 P w K mg base A outer s H → BindsTo s fd args (ps.zip us) → Vals vs us → sp vs H Q E → codeAny (model P w) A (.call (.ref f) args) (CR CX outer P w H s Q E) s
theorem Fn.mono {P : Program} {w : World} {K : Fg} {mg : Str → Option Value} {base : Heap} {CX : CXT} {j k : Nat} {f : Addr} {fd : FuncData} {ps : List Str} {sp : Sp} (F : Fn P w K mg base CX j f fd ps sp) (h : j ≤ k) : Fn P w K mg base CX k f fd ps sp :=
  ⟨F.len, fun A outer s H args us vs Q E hr hg => F.run A outer s H args us vs Q E (hr.mono h) hg⟩
section
variable {P : Program} {w : World} {K : Fg} {mg : Str → Option Value} {base : Heap} {CX : CXT}
theorem fn_by {x qual : Str} {st : Stmt} {f : Addr} {fd : FuncData} {N ps : List Str} {k : Nat} {sp : Sp} (Fu : Fun K x qual st f fd) (S : FnScope N ps (defScope st)) (len : ∀ vs H Q E, sp vs H Q E → vs.length = ps.length)
    (hbody : ∀ (cdv : Value) (A : Around) (outer : List Env) (s : Shared) (H : Hp) (vs : List V) (Q : VK) (E : XK), Room k (A.deeper (envOfC qual (defScope st) s.heap.objs.size f cdv)) →
      (A.deeper (envOfC qual (defScope st) s.heap.objs.size f cdv)).guards = some [] → sp vs H Q E →
      ∃ t, PSs (cxOf CX P w K mg base N qual (defScope st) f cdv A outer s H E) (defBody st) t ∧ t { nx := fun _ H' => Q .non H', rt := Q } (start N vs) H) : Fn P w K mg base CX (k + 1) f fd ps sp := by
  obtain ⟨oc, od, kV, doc, pm, an, cdv, ct, osl, rfl, lk, hcd⟩ := Fu.ex
  refine ⟨len, fun A outer s H args us vs Q E hr hg e0 hb r hsp => ?_⟩
  have KX : K.In s.heap := e0.mod.kin.keeps fun b o e => (e0.bs b o e).1
  have kinds : ∀ y ∈ ps.zip us, (defScope st).names.lookup y.1 = some .local ∨ ((defScope st).names.lookup y.1 = some .cell ∧ ((cellsFrom (s.heap.objs.size + 1) (defScope st).names []).lookup y.1).isSome = true) := by
    rintro ⟨n, v⟩ hy
    exact (S.par n (List.of_mem_zip hy).1).imp id fun q => ⟨q, PySem.W.cellsFrom_some _ _ _ (.inl q)⟩
  refine codeAny_call_function hr.depth (KX _ _ lk) rfl S.co S.gen rfl (PySem.W.codeRec_of KX hcd) (hb _ _ _ _ (wpAny_newFunctionEnv_cells S.kind kinds fun env he s1 x => ?_))
  subst he
  refine ⟨(e0.mod.nolimit.keeps fun b o e => (e0.bs b o e).1).keeps x.toInCall.keep, codeAny_func ?_⟩
  obtain ⟨t, ht, hq⟩ := hbody cdv A outer s H vs Q E (hr.deeper _) hg hsp
  refine wpAny_mono (ht.run [] s1 (start N vs) H _ (inv_start S hr.hd e0 (len _ _ _ _ hsp) r x) hq) (fun fl s' hs => ?_) fun e s' hs => hs
  match fl, hs with
  | .ret u, ⟨v, σ', H', J, rv, q⟩ => exact ⟨v, H', J.os, J.bare, J.base, J.hok, rv, q⟩
  | .next, ⟨σ', H', J, q⟩ => exact ⟨.non, H', J.os, J.bare, J.base, J.hok, rfl, q⟩
  | .brk, ⟨_, _, _, q⟩ => exact q.elim
  | .cont, ⟨_, _, _, q⟩ => exact q.elim
end
section
variable {X : Cx} {CX : CXT} {k : Nat} {f : Addr} {fd : FuncData} {ps : List Str} {sp : Sp} {dvs : List V} {ds : List Value} {E : XK} {x : Str} {p pos : Pos} {e : Expr} {es : List Expr} {t : TA}
theorem fn_run {pins : List (Addr × Obj)} {σ : L2.St} {H : Hp} {s : Shared} {Q : VK} {args : Args} {us : List Value} {vs : List V} (F : Fn X.prog X.w X.K X.mg X.base CX k f fd ps sp) (hr : Room k X.A) (hg : X.A.guards = some []) (hx : Passes CX X E)
    (I : Inv X pins σ H s) (hb : BindsTo s fd args (ps.zip us)) (r : Vals vs us) (h : sp vs H Q E) : codeAny (model X.prog X.w) X.A (.call (.ref f) args) (fun r s' => match r with
      | .ok (.ret u) => EP X pins σ Q u s'
      | .ok _ => False
      | .error e => X.xe e s') s := by
  refine codeAny_mono (F.run X.A X.stack s H args us vs Q E hr hg I.env0 hb r h) fun r s' hq => ?_
  match r, hq with
  | .error e, hq => exact hx pins σ H s e s' I hq
  | .ok (.ret u), hq => exact I.after hq
  | .ok .next, hq => exact False.elim hq
  | .ok .brk, hq => exact False.elim hq
  | .ok .cont, hq => exact False.elim hq
theorem call_fin {pins : List (Addr × Obj)} {σ : L2.St} {H : Hp} {s : Shared} {Q : VK} {us : List Value} {vs : List V} (F : Fn X.prog X.w X.K X.mg X.base CX k f fd ps sp) (hr : Room k X.A) (hg : X.A.guards = some []) (hx : Passes CX X E)
    (I : Inv X pins σ H s) (hb : Binds X.K fd ps []) (r : Vals vs us) (h : sp vs H Q E) : wpAny (model X.prog X.w) X.A (call (.ref f) us) (EP X pins σ Q) X.xe s := by
  have hl : us.length = ps.length := by rw [← r.length]; exact F.len _ _ _ _ h
  have hb' := hb s us I.kIn (by rw [List.append_nil]; exact hl)
  rw [List.append_nil] at hb'
  refine wpAny_call (codeAny_mono (fn_run F hr hg hx I hb' r h) fun r s' hq => ?_)
  match r, hq with
  | .error e, hq => exact hq
  | .ok (.ret u), hq => exact hq
  | .ok .next, hq => exact hq.elim
  | .ok .brk, hq => exact hq.elim
  | .ok .cont, hq => exact hq.elim
theorem pe_fn (F : Fn X.prog X.w X.K X.mg X.base CX k f fd ps sp) (hr : Room k X.A) (hgd : X.A.guards = some []) (hg : Gl X x) (hm : X.mg x = some (.ref f)) (hk : PySem.W.keepIn X.K (.ref f) = true) (hb : Binds X.K fd ps []) (hx : Passes CX X E)
    (ha : PA X (e :: es) t) (hdb : (x == ("__debug__" : Str)) = false := by decide) (he : starEach (e :: es) X.env = (false, eval e X.env) :: starEach es X.env := by rfl) (hpl : (backTo pos (starEach es X.env)).any (·.1) = false := by rfl) :
    PE X (.Call (.Name x p) (e :: es) [] pos) (fun σ H Q => t σ H fun vs H1 => sp vs H1 Q E) :=
  ⟨fun pins s σ H Q I h => wpAny_Call_Name_kw (ld_glob I hg hm (PySem.W.callWith_K (h₀ := X.base) I.ok.mod.kin hk (thn (ha.run pos pins s σ H _ I h) fun us s1 ⟨vs, H1, I1, r, q⟩ => ⟨I1.kIn, call_fin F hr hgd hx I1 hb r q⟩) he hpl) hdb)⟩
theorem pe_fn0 (F : Fn X.prog X.w X.K X.mg X.base CX k f fd ps sp) (hr : Room k X.A) (hgd : X.A.guards = some []) (hg : Gl X x) (hm : X.mg x = some (.ref f)) (hk : PySem.W.keepIn X.K (.ref f) = true) (hb : Binds X.K fd ps []) (hx : Passes CX X E)
    (hdb : (x == ("__debug__" : Str)) = false := by decide) : PE X (.Call (.Name x p) [] [] pos) (fun σ H Q => sp [] H Q E) :=
  ⟨fun pins s σ H Q I h => wpAny_Call_Name_kw (ld_glob I hg hm (PySem.W.callWith_K0 I.kIn hk (call_fin (us := []) F hr hgd hx I hb .nil h)) hdb)⟩
end

/-! ### promises by data -/
abbrev FSp := List Rv → Option Nat → (Rr → Option Nat → Prop) → Prop
def RrOk (K : Fg) (F' H H' : Hp) (v : V) : Rr → Prop
  | .val d => Rp K F' v d
  | .own ds => ∃ o xs, v = .ref o ∧ H o = none ∧ F' o = none ∧ H' o = some (.lst xs) ∧ Rps K F' xs ds
/-- how a call lies behind: still part, heap, source -/
structure Out (K : Fg) (F H : Hp) (a : Addr) (fu : Option Nat) (fu' : Option Nat) (F' H' : Hp) (v : V) (r : Rr) : Prop where
  f : Ex F F'
  s : Ex F' H'
  keep : ∀ b o, (fu ≠ none → b ≠ a) → H b = some o → H' b = some o
  new : ∀ b, F' b ≠ none → F b ≠ none ∨ H b = none
  src : fu ≠ none → ∃ n, fu' = some n ∧ F' a = none ∧ SrcAt H' a n
  rep : RrOk K F' H H' v r
def lift (K : Fg) (np : Nat) (fs : FSp) : Sp := fun vs H Q _ => ∃ F a rs fu post, Ex F H ∧ Tm K F a fu vs rs ∧ vs.length = np ∧ (∀ n, fu = some n → F a = none ∧ SrcAt H a n) ∧ fs rs fu post ∧
  ∀ r fu' v H' F', post r fu' → Out K F H a fu fu' F' H' v r → Q v H'
theorem lift_len {K : Fg} {np : Nat} {fs : FSp} (vs : List V) (H : Hp) (Q : VK) (E : XK) (h : lift K np fs vs H Q E) : vs.length = np := by
  obtain ⟨_, _, _, _, _, _, _, h, _⟩ := h
  exact h
def rrv : Rr → Rv
  | .val d => .val d
  | .own ds => .val (.list ds)
def dCall (np : Nat) (fs : FSp) (ta : DA) : DE := fun g Q => ta g fun rs g1 => rs.length = np ∧ match hasSrc rs with
  | true => fs rs g1.fu fun r fu' => Q (rrv r) { g1 with fu := fu' }
  | false => fs rs none fun r _ => Q (rrv r) g1
def dCallL (np : Nat) (fs : FSp) (ta : DA) : DL := fun g Q => ta g fun rs g1 => rs.length = np ∧ match hasSrc rs with
  | true => fs rs g1.fu fun r fu' => match r with | .own ds => Q ds { g1 with fu := fu' } | _ => False
  | false => fs rs none fun r _ => match r with | .own ds => Q ds g1 | _ => False
section
variable {K : Fg} {c : Con} {g : Gs} {σ : L2.St} {H F H' F' : Hp} {tv : List V} {tr : List Rv} {a : Addr}
theorem Tm.noSrc : ∀ {vs : List V} {rs : List Rv} {fu : Option Nat}, hasSrc rs = false → Tm K F a fu vs rs → Tm K F a none vs rs
  | _, _, _, _, .nil => .nil
  | _, .val d :: rs, _, h, .cons r t => .cons (show Rp K F _ d from r) (t.noSrc h)
  | _, .scr d :: rs, _, h, .cons r t => .cons r (t.noSrc h)
  | _, .ob d :: rs, _, h, .cons r t => .cons r (t.noSrc h)
  | _, .src :: rs, _, h, .cons r t => by cases h
theorem Tm.fu_ne : ∀ {vs : List V} {rs : List Rv} {fu : Option Nat}, hasSrc rs = true → Tm K F a fu vs rs → fu ≠ none
  | _, _, _, h, .nil => by cases h
  | _, .val d :: rs, _, h, .cons r t => Tm.fu_ne (rs := rs) h t
  | _, .scr d :: rs, _, h, .cons r t => Tm.fu_ne (rs := rs) h t
  | _, .ob d :: rs, _, h, .cons r t => Tm.fu_ne (rs := rs) h t
  | _, .src :: rs, _, h, .cons r t => r.2
theorem Tm.refu {fu fu' : Option Nat} (hf : fu' ≠ none) : ∀ {vs : List V} {rs : List Rv}, Tm K F a fu vs rs → Tm K F a fu' vs rs
  | _, _, .nil => .nil
  | _, .val d :: rs, .cons r t => .cons (show Rp K F _ d from r) (t.refu hf)
  | _, .scr d :: rs, .cons r t => .cons r (t.refu hf)
  | _, .ob d :: rs, .cons r t => .cons r (t.refu hf)
  | _, .src :: rs, .cons r t => .cons ⟨r.1, hf⟩ (t.refu hf)
/-- behind a call that had the source -/
theorem Sta.after1 (s : Sta K c g σ H tv tr F a) {v : V} {r : Rr} {fu' : Option Nat} (hf : g.fu ≠ none) (o : Out K F H a g.fu fu' F' H' v r) : Sta K c { g with fu := fu' } σ H' tv tr F' a := by
  obtain ⟨n', e', na, sa⟩ := o.src hf
  have ne' : fu' ≠ none := ne_none e'
  have oldF : ∀ b, H b ≠ none → F b = none → F' b = none := fun b h1 h2 => by
    cases q : F' b with
    | none => rfl
    | some u =>
      rcases o.new b (ne_none q) with z | z
      · exact absurd h2 z
      · exact absurd z h1
  obtain ⟨n0, e0⟩ : ∃ n, g.fu = some n := by cases q : g.fu with
    | none => exact absurd q hf
    | some n => exact ⟨n, rfl⟩
  obtain ⟨_, sx, _⟩ := s.src n0 e0
  refine ⟨s.e0.trans o.f, o.s, fun b u h1 h2 => ?_, fun b q => ?_, fun b h => ⟨(s.ex b h).1, ne'⟩, s.ow, fun n h => ?_, (s.tmp.up o.f).refu ne', s.len, fun i sv h => ?_, s.dis⟩
  · refine o.keep b u (fun _ z => ?_) (s.keep b u h1 h2)
    subst z
    rcases sx with z | ⟨_, z⟩
    · exact h1 z
    · rw [h2] at z; cases z
  · rcases o.new b q with z | z
    · exact s.new b z
    · exact .inr (s.fresh z)
  · have h' : fu' = some n := h
    rw [e'] at h'; cases h'
    exact ⟨na, sx, sa⟩
  · obtain ⟨v, w1, w2⟩ := s.slot i sv h
    refine ⟨v, w1, ?_⟩
    cases sv with
    | val d => exact Rp.up w2 o.f
    | src => exact ⟨w2.1, ne'⟩
    | scr ns => obtain ⟨b, z1, z2⟩ := w2; exact ⟨b, z1, ex_l o.f z2⟩
    | ob k => exact ObOk.up o.f w2
    | own ds =>
      obtain ⟨p, xs, q1, q2, q3, q4, q5, q6⟩ := w2
      exact ⟨p, xs, q1, oldF p (ne_none q4) q2, q3, o.keep p _ (fun _ => q6 hf) q4, q5.up o.f, fun _ => q6 hf⟩
/-- behind a call that had it not -/
theorem Sta.after0 (s : Sta K c g σ H tv tr F a) {v : V} {r : Rr} {fu' : Option Nat} {b : Addr} (o : Out K F H b none fu' F' H' v r) : Sta K c g σ H' tv tr F' a :=
  s.grow ⟨o.f, fun x u h => o.keep x u (fun z => absurd rfl z) h, o.s, o.new⟩
theorem NewL.of (s : Sta K c g σ H tv tr F a) {g' : Gs} (hs : g'.sl = g.sl) (hfu : g'.fu ≠ none → g.fu ≠ none) {v : V} {ds : List Da} (h : RrOk K F' H H' v (.own ds)) : NewL K c g' σ H' F' a v ds := by
  obtain ⟨o, xs, rfl, q1, q2, q3, q4⟩ := h
  refine ⟨o, xs, rfl, q2, s.fresh q1, q3, q4, fun hf z => ?_, fun i es hi z => ?_⟩
  · cases q : g.fu with
    | none => exact hfu hf q
    | some n =>
      obtain ⟨_, _, x, y, w, e, _⟩ := s.src n q
      rw [← z, q1] at e; cases e
  · rw [hs] at hi
    obtain ⟨v, w1, o', ys, r1, r2, r3, r4, _⟩ := s.slot i _ hi
    rw [z] at w1
    cases w1
    cases r1
    rw [q1] at r4; cases r4
end
section
variable {X : Cx} {k : Nat} {f : Addr} {fd : FuncData} {ps : List Str} {fs : FSp} {x : Str} {p pos : Pos} {e : Expr} {es : List Expr} {tr : DA} {np : Nat} {E : XK} {CX : CXT}
theorem lift_core : ∀ σ H Q, up X.K (dCall np fs tr) σ H Q → upA X.K tr σ H fun vs H1 => lift X.K np fs vs H1 Q E := fun σ H Q q => by
  obtain ⟨c, g, tv, tr, F, ad, post, s, t, k⟩ := q
  refine ⟨c, g, tv, tr, F, ad, _, s, t, fun rs g1 vs H1 F1 a1 t1 s1 hl => ?_⟩
  obtain ⟨hn, t1⟩ := t1
  rw [← hl] at hn
  obtain ⟨m1, m2⟩ := s1.tmp.args hl
  have s2 := s1.pop m2
  cases q : hasSrc rs with
  | true =>
    rw [q] at t1
    have hf := m1.fu_ne q
    refine ⟨F1, a1, rs, g1.fu, _, s1.eh, m1, hn, fun n h => ⟨(s1.src n h).1, (s1.src n h).2.2⟩, t1, fun r fu' v H' F' hp o => ?_⟩
    have s3 := s2.after1 hf o
    cases r with
    | val d => exact k _ _ v H' F' a1 hp (s3.push (r := .val d) o.rep)
    | own ds =>
      obtain ⟨F'', s4⟩ := s3.still (NewL.of (g' := { g1 with fu := fu' }) s2 rfl (fun _ => hf) o.rep)
      exact k _ _ v H' F'' a1 hp s4
  | false =>
    rw [q] at t1
    refine ⟨F1, a1, rs, none, _, s1.eh, m1.noSrc q, hn, fun n h => by (cases h), t1, fun r fu' v H' F' hp o => ?_⟩
    have s3 := s2.after0 o
    cases r with
    | val d => exact k _ _ v H' F' a1 hp (s3.push (r := .val d) o.rep)
    | own ds =>
      obtain ⟨F'', s4⟩ := s3.still (NewL.of s2 rfl id o.rep)
      exact k _ _ v H' F'' a1 hp s4
theorem liftL_core : ∀ σ H Q, upL X.K (dCallL np fs tr) σ H Q → upA X.K tr σ H fun vs H1 => lift X.K np fs vs H1 Q E := fun σ H Q q => by
  obtain ⟨c, g, tv, tr, F, ad, post, s, t, k⟩ := q
  refine ⟨c, g, tv, tr, F, ad, _, s, t, fun rs g1 vs H1 F1 a1 t1 s1 hl => ?_⟩
  obtain ⟨hn, t1⟩ := t1
  rw [← hl] at hn
  obtain ⟨m1, m2⟩ := s1.tmp.args hl
  have s2 := s1.pop m2
  cases q : hasSrc rs with
  | true =>
    rw [q] at t1
    have hf := m1.fu_ne q
    refine ⟨F1, a1, rs, g1.fu, _, s1.eh, m1, hn, fun n h => ⟨(s1.src n h).1, (s1.src n h).2.2⟩, t1, fun r fu' v H' F' hp o => ?_⟩
    have s3 := s2.after1 hf o
    cases r with
    | val d => exact hp.elim
    | own ds => exact k _ _ v H' F' a1 hp s3 (NewL.of (g' := { g1 with fu := fu' }) s2 rfl (fun _ => hf) o.rep)
  | false =>
    rw [q] at t1
    refine ⟨F1, a1, rs, none, _, s1.eh, m1.noSrc q, hn, fun n h => by (cases h), t1, fun r fu' v H' F' hp o => ?_⟩
    have s3 := s2.after0 o
    cases r with
    | val d => exact hp.elim
    | own ds => exact k _ _ v H' F' a1 hp s3 (NewL.of s2 rfl id o.rep)
theorem e_call (G : Fn X.prog X.w X.K X.mg X.base CX k f fd ps (lift X.K np fs)) (hr : Room k X.A) (hgd : X.A.guards = some []) (hg : Gl X x) (hm : X.mg x = some (.ref f)) (hk : PySem.W.keepIn X.K (.ref f) = true) (hb : Binds X.K fd ps []) (hx : Passes CX X E)
    (ha : PA X (e :: es) (upA X.K tr)) (hdb : (x == ("__debug__" : Str)) = false := by decide) (he : starEach (e :: es) X.env = (false, eval e X.env) :: starEach es X.env := by rfl) (hpl : (backTo pos (starEach es X.env)).any (·.1) = false := by rfl) :
    PE X (.Call (.Name x p) (e :: es) [] pos) (up X.K (dCall np fs tr)) := pe_to (pe_fn G hr hgd hg hm hk hb hx ha hdb he hpl) lift_core
theorem e_callL (G : Fn X.prog X.w X.K X.mg X.base CX k f fd ps (lift X.K np fs)) (hr : Room k X.A) (hgd : X.A.guards = some []) (hg : Gl X x) (hm : X.mg x = some (.ref f)) (hk : PySem.W.keepIn X.K (.ref f) = true) (hb : Binds X.K fd ps []) (hx : Passes CX X E)
    (ha : PA X (e :: es) (upA X.K tr)) (hdb : (x == ("__debug__" : Str)) = false := by decide) (he : starEach (e :: es) X.env = (false, eval e X.env) :: starEach es X.env := by rfl) (hpl : (backTo pos (starEach es X.env)).any (·.1) = false := by rfl) :
    PE X (.Call (.Name x p) (e :: es) [] pos) (upL X.K (dCallL np fs tr)) := pe_to (pe_fn G hr hgd hg hm hk hb hx ha hdb he hpl) liftL_core
theorem e_call0 (G : Fn X.prog X.w X.K X.mg X.base CX k f fd ps (lift X.K 0 fs)) (hr : Room k X.A) (hgd : X.A.guards = some []) (hg : Gl X x) (hm : X.mg x = some (.ref f)) (hk : PySem.W.keepIn X.K (.ref f) = true) (hb : Binds X.K fd ps []) (hx : Passes CX X E)
    (hdb : (x == ("__debug__" : Str)) = false := by decide) : PE X (.Call (.Name x p) [] [] pos) (up X.K (dCall 0 fs dNil)) := pe_to (pe_fn0 G hr hgd hg hm hk hb hx hdb) fun σ H Q q => by
  have h := lift_core (X := X) (E := E) σ H Q q
  obtain ⟨c, g, tv, tr, F, ad, post, s, t, k⟩ := h
  exact k [] g [] H F ad t s rfl
end
end Z

namespace Z
open L2 PySem PySem.Spec PyProof.Rows
open Evl (Ex ex_l ex_t ex_rd fresh_back)

/-! ### stores -/
def rsv : Rv → Sv
  | .val d => .val d
  | .src => .src
  | .scr ns => .scr ns
  | .ob k => .ob k
section
variable {K : Fg} {c : Con} {g : Gs} {σ : L2.St} {H F : Hp} {tv : List V} {tr : List Rv} {a : Addr}
theorem set_some {α : Type} {l : List α} {i j : Nat} {x y : α} (h : (l.set i x)[j]? = some y) : (j = i ∧ j < l.length ∧ y = x) ∨ (j ≠ i ∧ l[j]? = some y) := by
  by_cases e : j = i
  · subst e
    have hl : j < (l.set j x).length := (List.getElem?_eq_some_iff.mp h).1
    rw [List.length_set] at hl
    rw [List.getElem?_set_self hl] at h
    cases h
    exact .inl ⟨rfl, hl, rfl⟩
  · rw [List.getElem?_set_ne (Ne.symm e)] at h
    exact .inr ⟨e, h⟩
theorem Sta.set {v : V} {r : Rv} (s : Sta K c g σ H (v :: tv) (r :: tr) F a) (i : Nat) : Sta K c (g.set i (rsv r)) (σ.set i (some v)) H tv tr F a := by
  have hr := s.top
  have s0 := s.pop1
  refine ⟨s0.e0, s0.eh, s0.keep, s0.new, s0.ex, s0.ow, s0.src, s0.tmp, ?_, fun j sv hj => ?_, fun j k ds es hjk hj hk => ?_⟩
  · show (σ.set i _).length = (g.sl.set i _).length
    rw [List.length_set, List.length_set]; exact s0.len
  · rcases set_some (show (g.sl.set i (some (rsv r)))[j]? = some (some sv) from hj) with ⟨rfl, hl, e⟩ | ⟨ne, e⟩
    · cases e
      refine ⟨v, List.getElem?_set_self (by rw [s0.len]; exact hl), ?_⟩
      cases r with
      | val d => exact hr
      | src => exact hr
      | scr ns => exact hr
      | ob k => exact hr
    · obtain ⟨w, h1, h2⟩ := s0.slot j sv e
      exact ⟨w, by rw [List.getElem?_set_ne (Ne.symm ne)]; exact h1, h2⟩
  · have no : ∀ k fs, (g.sl.set i (some (rsv r)))[k]? = some (some (Sv.own fs)) → k ≠ i ∧ g.sl[k]? = some (some (Sv.own fs)) := fun k fs h => by
      rcases set_some h with ⟨_, _, e⟩ | z
      · cases r <;> cases e
      · exact z
    obtain ⟨n1, e1⟩ := no j ds hj
    obtain ⟨n2, e2⟩ := no k es hk
    rw [List.getElem?_set_ne (Ne.symm n1), List.getElem?_set_ne (Ne.symm n2)]
    exact s0.dis j k ds es hjk e1 e2
theorem Sta.setOwn (s : Sta K c g σ H tv tr F a) {v : V} {ds : List Da} (h : NewL K c g σ H F a v ds) (i : Nat) : Sta K c (g.set i (.own ds)) (σ.set i (some v)) H tv tr F a := by
  obtain ⟨o, xs, rfl, q2, q3, q4, q5, q6, q7⟩ := h.ex
  refine ⟨s.e0, s.eh, s.keep, s.new, s.ex, s.ow, s.src, s.tmp, ?_, fun j sv hj => ?_, fun j k es fs hjk hj hk => ?_⟩
  · show (σ.set i _).length = (g.sl.set i _).length
    rw [List.length_set, List.length_set]; exact s.len
  · rcases set_some (show (g.sl.set i (some (Sv.own ds)))[j]? = some (some sv) from hj) with ⟨rfl, hl, e⟩ | ⟨ne, e⟩
    · cases e
      exact ⟨_, List.getElem?_set_self (by rw [s.len]; exact hl), o, xs, rfl, q2, q3, q4, q5, q6⟩
    · obtain ⟨w, h1, h2⟩ := s.slot j sv e
      exact ⟨w, by rw [List.getElem?_set_ne (Ne.symm ne)]; exact h1, h2⟩
  · rcases set_some (show (g.sl.set i (some (Sv.own ds)))[j]? = some (some (Sv.own es)) from hj) with ⟨rfl, hl, e⟩ | ⟨nj, ej⟩
    · rcases set_some (show (g.sl.set j (some (Sv.own ds)))[k]? = some (some (Sv.own fs)) from hk) with ⟨rfl, _, _⟩ | ⟨nk, ek⟩
      · exact absurd rfl hjk
      · rw [List.getElem?_set_self (by rw [s.len]; exact hl), List.getElem?_set_ne (Ne.symm nk)]
        exact fun z => q7 k fs ek z.symm
    · rcases set_some (show (g.sl.set i (some (Sv.own ds)))[k]? = some (some (Sv.own fs)) from hk) with ⟨rfl, hl, _⟩ | ⟨nk, ek⟩
      · rw [List.getElem?_set_self (by rw [s.len]; exact hl), List.getElem?_set_ne (Ne.symm nj)]
        exact q7 j es ej
      · rw [List.getElem?_set_ne (Ne.symm nj), List.getElem?_set_ne (Ne.symm nk)]
        exact s.dis j k es fs hjk ej ek
/-- an own list changes -/
theorem Sta.mut (s : Sta K c g σ H tv tr F a) {i : Nat} {o : Addr} {ds es : List Da} {ys : List V} (h : g.sl[i]? = some (some (.own ds))) (ho : σ[i]? = some (some (.ref o))) (hy : Rps K F ys es) :
    Sta K c (g.set i (.own es)) σ (upd H o (.lst ys)) tv tr F a := by
  obtain ⟨v, h1, o', xs, rfl, q2, q3, q4, q5, q6⟩ := s.slot i _ h
  rw [ho] at h1
  cases h1
  have hi : i < g.sl.length := (List.getElem?_eq_some_iff.mp h).1
  refine ⟨s.e0, fun b u q => ?_, fun b u z1 z2 => ?_, s.new, s.ex, s.ow, fun n hn => ?_, s.tmp, ?_, fun j sv hj => ?_, fun j k e1 e2 hjk hj hk => ?_⟩
  · have nb : b ≠ o := fun z => by rw [z, q2] at q; cases q
    rw [upd_ne nb]; exact s.eh b u q
  · have nb : b ≠ o := fun z => by rw [z, q3] at z2; cases z2
    rw [upd_ne nb]; exact s.keep b u z1 z2
  · obtain ⟨z1, z2, x, y, z, e, z3⟩ := s.src n hn
    exact ⟨z1, z2, x, y, z, by rw [upd_ne (fun w => q6 (ne_none hn) w.symm)]; exact e, z3⟩
  · show σ.length = (g.sl.set i _).length
    rw [List.length_set]; exact s.len
  · rcases set_some (show (g.sl.set i (some (Sv.own es)))[j]? = some (some sv) from hj) with ⟨rfl, hl, e⟩ | ⟨ne, e⟩
    · cases e
      exact ⟨_, ho, o, ys, rfl, q2, q3, upd_same, hy, q6⟩
    · obtain ⟨w, h1, h2⟩ := s.slot j sv e
      refine ⟨w, h1, ?_⟩
      cases sv with
      | val d => exact h2
      | src => exact h2
      | scr ns => exact h2
      | ob k => exact h2
      | own fs =>
        obtain ⟨p, zs, r1, r2, r3, r4, r5, r6⟩ := h2
        have np : p ≠ o := fun z => s.dis j i fs ds ne e h (by rw [h1, ho, r1, z])
        exact ⟨p, zs, r1, r2, r3, by rw [upd_ne np]; exact r4, r5, r6⟩
  · have back : ∀ k e, (g.sl.set i (some (Sv.own es)))[k]? = some (some (Sv.own e)) → ∃ e', g.sl[k]? = some (some (Sv.own e')) := fun k e hk => by
      rcases set_some hk with ⟨rfl, _, _⟩ | ⟨_, z⟩
      · exact ⟨_, h⟩
      · exact ⟨_, z⟩
    obtain ⟨f1, w1⟩ := back j e1 hj
    obtain ⟨f2, w2⟩ := back k e2 hk
    exact s.dis j k f1 f2 hjk w1 w2
end

/-! ### targets -/
abbrev DG := Rv → Gs → (Gs → Prop) → Prop
abbrev DGs := List Da → Gs → (Gs → Prop) → Prop
def upG (K : Fg) (t : DG) : TG := fun v σ H Q => ∃ c g tv tr F a r post, Sta K c g σ H (v :: tv) (r :: tr) F a ∧ t r g post ∧ ∀ g' σ' H' F' a', post g' → Sta K c g' σ' H' tv tr F' a' → Q σ' H'
def upGs (K : Fg) (t : DGs) : TGs := fun vs σ H Q => ∃ c g tv tr F a ds post, Sta K c g σ H (vs ++ tv) (ds.map Rv.val ++ tr) F a ∧ vs.length = ds.length ∧ t ds g post ∧ ∀ g' σ' H' F' a', post g' → Sta K c g' σ' H' tv tr F' a' → Q σ' H'
def dN (i : Nat) : DG := fun r g Q => Q (g.set i (rsv r))
def dT (n : Nat) (t : DGs) : DG := fun r g Q => match r with
  | .val (.tuple ds) => ds.length = n ∧ t ds g Q
  | _ => False
def dTn : DGs := fun ds g Q => match ds with
  | [] => Q g
  | _ => False
def dTc (t : DG) (u : DGs) : DGs := fun ds g Q => match ds with
  | d :: r => t (.val d) g fun g1 => u r g1 Q
  | [] => False
section
variable {X : Cx} {pos : Pos} {e : Expr} {es : List Expr}
theorem pg_to {t t' : TG} (h : PG X e t) (i : ∀ v σ H Q, t' v σ H Q → t v σ H Q) : PG X e t' := ⟨fun pins s v u σ H Q I r q => h.run pins s v u σ H Q I r (i _ _ _ _ q)⟩
theorem pgs_to {t t' : TGs} (h : PGs X es t) (i : ∀ v σ H Q, t' v σ H Q → t v σ H Q) : PGs X es t' := ⟨fun pins s v u σ H Q I r q => h.run pins s v u σ H Q I r (i _ _ _ _ q)⟩
theorem Tm.ofRps {K : Fg} {F : Hp} {a : Addr} {fu : Option Nat} : ∀ {vs : List V} {ds : List Da}, Rps K F vs ds → Tm K F a fu vs (ds.map Rv.val)
  | _, _, .nil => .nil
  | _, _, .cons h t => .cons h (Tm.ofRps t)
theorem g_name {i : Nat} (h : PG X e (gName i)) : PG X e (upG X.K (dN i)) := pg_to h fun v σ H Q q => by
  obtain ⟨c, g, tv, tr, F, a, r, post, s, t, k⟩ := q
  exact k _ _ H F a t (s.set i)
theorem gs_nil : PGs X [] (upGs X.K dTn) := pgs_to pgs_nil fun vs σ H Q q => by
  obtain ⟨c, g, tv, tr, F, a, ds, post, s, hl, t, k⟩ := q
  cases ds with
  | nil =>
    have : vs = [] := List.length_eq_zero_iff.mp hl
    subst this
    exact ⟨rfl, k _ _ H F a t s⟩
  | cons d r => exact t.elim
theorem gs_cons {t : DG} {u : DGs} (h : PG X e (upG X.K t)) (hr : PGs X es (upGs X.K u)) (hs : (assignEach (e :: es) X.env).map (·.2) = assign e X.env :: (assignEach es X.env).map (·.2) := by rfl) : PGs X (e :: es) (upGs X.K (dTc t u)) := pgs_to (pgs_cons h hr hs) fun vs σ H Q q => by
  obtain ⟨c, g, tv, tr, F, a, ds, post, s, hl, t, k⟩ := q
  cases ds with
  | nil => exact t.elim
  | cons d r =>
    cases vs with
    | nil => simp at hl
    | cons v vs =>
      refine ⟨v, vs, rfl, c, g, _, _, F, a, _, _, s, t, fun g1 σ1 H1 F1 a1 t1 s1 => ?_⟩
      exact ⟨c, g1, tv, tr, F1, a1, r, _, s1, by simpa using hl, t1, k⟩
theorem g_tup {n k : Nat} {t : DGs} (hc : X.calm = true) (h : PGs X es (upGs X.K t)) (hn : (assignEach es X.env).length = n := by rfl) (hf : List.findIdx? (fun x => x.1) (assignEach es X.env) = none := by rfl) : PG X (.Tuple es k pos) (upG X.K (dT n t)) :=
  pg_to (pg_tup hc h hn hf) fun v σ H Q q => by
  obtain ⟨c, g, tv, tr, F, a, r, post, s, t, k⟩ := q
  cases r with
  | val d =>
    cases d with
    | tuple ds =>
      have hr : Rp X.K F v (.tuple ds) := s.top
      cases hr with
      | tup sq m =>
        refine ⟨_, _, rfl, ex_t s.eh sq, by rw [m.len]; exact t.1, c, g, tv, tr, F, a, ds, post, s.pop ((Tm.ofRps m).app s.pop1.tmp), m.len, t.2, k⟩
    | _ => exact t.elim
  | _ => exact t.elim
end

/-! ### statements -/
def dAsg (te : DE) (t : DG) : DS := fun d g => te g fun r g1 => t r g1 d.nx
def dSetL (i : Nat) (tl : DL) : DS := fun d g => tl g fun ds g1 => d.nx (g1.set i (.own ds))
def dSeq (t u : DS) : DS := fun d g => t { d with nx := u d } g
def dNext : DS := fun d g => d.nx g
def dIfS (c : DT) (t u : DS) : DS := fun d g => c g fun b g1 => (b = true → t d g1) ∧ (b = false → u d g1)
def dRet (te : DE) : DS := fun d g => te g fun r g1 => match r with
  | .val x => d.rt (.val x) g1
  | _ => False
def dRetL (tl : DL) : DS := fun d g => tl g fun ds g1 => d.rt (.own ds) g1
def dDrop (te : DE) : DS := fun d g => te g fun _ g1 => d.nx g1
def dNever : DS := fun _ _ => False
def dBrk : DS := fun d g => d.bk g
def dCnt : DS := fun d g => d.ct g
def dAug (i : Nat) (f : BinF) (te : DE) : DS := fun d g => match g.sl[i]? with
  | some (some (.val x)) => te g fun r g1 => match r with
    | .val y => f x y fun z => d.nx (g1.set i (.val z))
    | _ => False
  | _ => False
def dPar (i j : Nat) (ta tb : DE) : DS := fun d g => ta g fun r g1 => tb g1 fun s g2 => d.nx ((g2.set i (rsv r)).set j (rsv s))
def dPar3 (i j l : Nat) (ta tb tc : DE) : DS := fun d g => ta g fun r g1 => tb g1 fun s g2 => tc g2 fun q g3 => d.nx (((g3.set i (rsv r)).set j (rsv s)).set l (rsv q))
/-- a, b = [..], constant -/
def dParL (i j : Nat) (tl : DL) (x : Da) : DS := fun d g => tl g fun ds g1 => d.nx ((g1.set i (.own ds)).set j (.val x))
def dApp (i : Nat) (te : DE) : DS := fun d g => (∃ ds, g.sl[i]? = some (some (.own ds))) ∧ te g fun r g1 => match r with
  | .val z => (match g1.sl[i]? with
    | some (some (.own ds)) => ds.length < 1000000 ∧ d.nx (g1.set i (.own (ds ++ [z])))
    | _ => False)
  | _ => False
def dExt (i : Nat) (te : DE) : DS := fun d g => (∃ ds, g.sl[i]? = some (some (.own ds))) ∧ te g fun r g1 => match r with
  | .val (.list zs) => (match g1.sl[i]? with
    | some (some (.own ds)) => ds.length + zs.length ≤ 1000000 ∧ d.nx (g1.set i (.own (ds ++ zs)))
    | _ => False)
  | _ => False
def dWhile (c : DT) (tb : DS) : DS := fun d g => ∃ W : Nat → Gs → Prop, (∃ m, W m g) ∧ ∀ m g, W m g → c g fun b g1 =>
  (b = true → tb { d with nx := fun g2 => ∃ m', m' < m ∧ W m' g2, ct := fun g2 => ∃ m', m' < m ∧ W m' g2, bk := d.nx } g1) ∧ (b = false → d.nx g1)
section
variable {X : Cx} {pos : Pos} {e tg : Expr} {te : DE} {tl : DL}
theorem s_asg {t : DG} (he : PE X e (up X.K te)) (hg : PG X tg (upG X.K t)) (h1 : swapsWithSole [tg] e pos.line X.env = pure false := by rfl) (h2 : swappedStores [tg] e X.env = pure none := by rfl) (h3 : (assignEach [tg] X.env).map (·.2) = [assign tg X.env] := by rfl) :
    PS X (.Assign [tg] e pos) (upS X.K (dAsg te t)) := ps_to (ps_asg he hg h1 h2 h3) fun D σ H q => by
  obtain ⟨c, g, tv, tr, F, a, d, s, hn, t, k⟩ := q
  refine ⟨c, g, tv, tr, F, a, _, s, t, fun r g1 v H1 F1 a1 t1 s1 => ?_⟩
  exact ⟨c, g1, tv, tr, F1, a1, r, _, s1, t1, fun g2 σ2 H2 F2 a2 t2 s2 => k.nx g2 σ2 H2 F2 a2 t2 s2⟩
theorem s_set {i : Nat} {x : Str} {pos' : Pos} (hN : X.N.Nodup) (hi : X.N[i]? = some x) (hx : L2.Loc X.env.scope x) (he : PE X e (up X.K te)) (h1 : swapsWith e (some (.Name x pos')) pos.line X.env = pure false := by rfl)
    (hf : X.fn x = true ∨ X.env.scope.names.lookup x = some .local := by first | exact .inl rfl | exact .inr rfl) : PS X (.Assign [.Name x pos'] e pos) (upS X.K (dAsg te (dN i))) := ps_to (ps_set hN hi hx he h1 hf) fun D σ H q => by
  obtain ⟨c, g, tv, tr, F, a, d, s, hn, t, k⟩ := q
  exact ⟨c, g, tv, tr, F, a, _, s, t, fun r g1 v H1 F1 a1 t1 s1 => k.nx _ _ H1 F1 a1 t1 (s1.set i)⟩
theorem s_setL {i : Nat} {x : Str} {pos' : Pos} (hN : X.N.Nodup) (hi : X.N[i]? = some x) (hx : L2.Loc X.env.scope x) (he : PE X e (upL X.K tl)) (h1 : swapsWith e (some (.Name x pos')) pos.line X.env = pure false := by rfl)
    (hf : X.fn x = true ∨ X.env.scope.names.lookup x = some .local := by first | exact .inl rfl | exact .inr rfl) : PS X (.Assign [.Name x pos'] e pos) (upS X.K (dSetL i tl)) := ps_to (ps_set hN hi hx he h1 hf) fun D σ H q => by
  obtain ⟨c, g, tv, tr, F, a, d, s, hn, t, k⟩ := q
  exact ⟨c, g, tv, tr, F, a, _, s, t, fun ds g1 v H1 F1 a1 t1 s1 n1 => k.nx _ _ H1 F1 a1 t1 (s1.setOwn n1 i)⟩
variable {st : Stmt} {rest body : List Stmt} {t u : DS} {ct : DT}
theorem ss_nil : PSs X [] (upS X.K dNext) := pss_to pss_nil fun D σ H q => by
  obtain ⟨c, g, tv, tr, F, a, d, s, hn, t, k⟩ := q
  exact k.nx g σ H F a t s
theorem DD.seq {K : Fg} {c : Con} {tv : List V} {tr : List Rv} {d : DEnds} {D : Ends} (k : DD K c tv tr d D) {N : Gs → Prop} {M : L2.St → Hp → Prop} (h : ∀ g σ H F a, N g → Sta K c g σ H tv tr F a → M σ H) : DD K c tv tr { d with nx := N } { D with nx := M } :=
  ⟨h, k.bk, k.ct, k.rv, k.ro⟩
theorem ss_cons (h1 : PS X st (upS X.K t)) (h2 : PSs X rest (upS X.K u)) : PSs X (st :: rest) (upS X.K (dSeq t u)) := pss_to (pss_cons h1 h2) fun D σ H q => by
  obtain ⟨c, g, tv, tr, F, a, d, s, hn, t, k⟩ := q
  exact ⟨c, g, tv, tr, F, a, _, s, hn, t, k.seq fun g1 σ1 H1 F1 a1 t1 s1 => ⟨c, g1, tv, tr, F1, a1, d, s1, hn, t1, k⟩⟩
theorem ss_one (h1 : PS X st (upS X.K t)) : PSs X [st] (upS X.K t) := pss_one h1
theorem s_if {c : Expr} {a b : List Stmt} (hc : PT X c (upT X.K ct)) (h1 : PSs X a (upS X.K t)) (h2 : PSs X b (upS X.K u)) : PS X (.If c a b pos) (upS X.K (dIfS ct t u)) := ps_to (ps_if hc h1 h2) fun D σ H q => by
  obtain ⟨c, g, tv, tr, F, a, d, s, hn, t, k⟩ := q
  refine ⟨c, g, tv, tr, F, a, _, s, t, fun b g1 H1 F1 a1 t1 s1 => ?_⟩
  cases b with
  | true => rw [if_pos rfl]; exact ⟨c, g1, tv, tr, F1, a1, d, s1, hn, t1.1 rfl, k⟩
  | false => rw [if_neg Bool.false_ne_true]; exact ⟨c, g1, tv, tr, F1, a1, d, s1, hn, t1.2 rfl, k⟩
theorem s_ret (he : PE X e (up X.K te)) : PS X (.Return (some e) pos) (upS X.K (dRet te)) := ps_to (ps_ret he) fun D σ H q => by
  obtain ⟨c, g, tv, tr, F, a, d, s, hn, t, k⟩ := q
  refine ⟨c, g, tv, tr, F, a, _, s, t, fun r g1 v H1 F1 a1 t1 s1 => ?_⟩
  cases r with
  | val x => exact k.rv x g1 σ v H1 F1 a1 t1 s1
  | _ => exact t1.elim
theorem s_retL (he : PE X e (upL X.K tl)) : PS X (.Return (some e) pos) (upS X.K (dRetL tl)) := ps_to (ps_ret he) fun D σ H q => by
  obtain ⟨c, g, tv, tr, F, a, d, s, hn, t, k⟩ := q
  refine ⟨c, g, tv, tr, F, a, _, s, t, fun ds g1 v H1 F1 a1 t1 s1 n1 => ?_⟩
  obtain ⟨o, xs, q1, q2, q3, q4, q5, q6, _⟩ := n1.ex
  exact k.ro ds g1 σ v H1 F1 a1 t1 s1 ⟨o, xs, q1, q2, q3, q4, q5, q6, fun i es h => by simp at h⟩
theorem s_retN : PS X (.Return none pos) (upS X.K (dRet (dC .none))) := ps_to ps_retN fun D σ H q => by
  obtain ⟨c, g, tv, tr, F, a, d, s, hn, t, k⟩ := q
  exact k.rv .none g σ .non H F a t (s.push (r := .val .none) Rp.non)
theorem s_expr (he : PE X e (up X.K te)) (h1 : swapsWith e none pos.line X.env = pure false := by rfl) : PS X (.Expr e pos) (upS X.K (dDrop te)) := ps_to (ps_expr he h1) fun D σ H q => by
  obtain ⟨c, g, tv, tr, F, a, d, s, hn, t, k⟩ := q
  exact ⟨c, g, tv, tr, F, a, _, s, t, fun r g1 v H1 F1 a1 t1 s1 => k.nx g1 σ H1 F1 a1 t1 s1.pop1⟩
theorem s_never : PS X st (upS X.K dNever) := ps_to ps_never fun D σ H q => by
  obtain ⟨c, g, tv, tr, F, a, d, s, hn, t, k⟩ := q
  exact t.elim
theorem s_break : PS X (.Break pos) (upS X.K dBrk) := ps_to ps_break fun D σ H q => by
  obtain ⟨c, g, tv, tr, F, a, d, s, hn, t, k⟩ := q
  exact k.bk g σ H F a t s
theorem s_cont : PS X (.Continue pos) (upS X.K dCnt) := ps_to ps_continue fun D σ H q => by
  obtain ⟨c, g, tv, tr, F, a, d, s, hn, t, k⟩ := q
  exact k.ct g σ H F a t s
theorem s_pass : PS X (.Pass pos) (upS X.K dNext) := ps_to ps_pass fun D σ H q => by
  obtain ⟨c, g, tv, tr, F, a, d, s, hn, t, k⟩ := q
  exact k.nx g σ H F a t s
theorem s_aug {i : Nat} {x : Str} {pos' : Pos} {op : Operator} {f : BinF} {r : R2} (hN : X.N.Nodup) (hi : X.N[i]? = some x) (hx : L2.Loc X.env.scope x) (he : PE X e (up X.K te)) (ho : OpR X (inplaceOp op) r) (hb : BinOk X.K r f)
    (hf : X.fn x = true ∨ X.env.scope.names.lookup x = some .local := by first | exact .inl rfl | exact .inr rfl) : PS X (.AugAssign (.Name x pos') op e pos) (upS X.K (dAug i f te)) := ps_to (ps_aug (ti := r) hN hi hx he ho hf) fun D σ H q => by
  obtain ⟨c, g, tv, tr, F, a, d, s, hn, t, k⟩ := q
  unfold dAug at t
  split at t
  · rename_i y hy
    obtain ⟨v, h1, h2⟩ := s.slot i _ hy
    refine ⟨v, h1, c, g, v :: tv, .val y :: tr, F, a, _, s.push (r := .val y) h2, t, fun r g1 w H1 F1 a1 t1 s1 => ?_⟩
    cases r with
    | val z =>
      have r1 : Rp X.K F1 v y := s1.pop1.top
      have r2 : Rp X.K F1 w z := s1.top
      exact hb F1 H1 v w y z _ _ s1.eh r1 r2 t1 fun z' v' H' F' hz gr rz => k.nx _ _ H' F' a1 hz (Sta.set (r := .val z') ((s1.pop1.pop1.grow gr).push (r := .val z') rz) i)
    | _ => exact t1.elim
  · exact t.elim
theorem s_par {i j : Nat} {x y : Str} {a b : Expr} {ta tb : DE} {px py pt : Pos} {kt k2 : Nat} {pt2 : Pos} (hc : X.calm = true) (hN : X.N.Nodup) (hi : X.N[i]? = some x) (hj : X.N[j]? = some y) (hij : i ≠ j)
    (hx : X.env.scope.names.lookup x = some .local) (hy : X.env.scope.names.lookup y = some .local) (ha : PE X a (up X.K ta)) (hb : PE X b (up X.K tb))
    (hsw : swappedStores [.Tuple [.Name x px, .Name y py] kt pt] (.Tuple [a, b] k2 pt2) X.env = pure (some [x, y]) := by rfl) (h1 : swapsWithSole [.Tuple [.Name x px, .Name y py] kt pt] (.Tuple [a, b] k2 pt2) pos.line X.env = pure false := by rfl)
    (n1 : starEach [a, b] X.env = (false, eval a X.env) :: starEach [b] X.env := by rfl) (n2 : starEach [b] X.env = (false, eval b X.env) :: starEach [] X.env := by rfl) :
    PS X (.Assign [.Tuple [.Name x px, .Name y py] kt pt] (.Tuple [a, b] k2 pt2) pos) (upS X.K (dPar i j ta tb)) := ps_to (ps_par hc hN hi hj hij hx hy (a_cons ha (a_cons hb a_nil n2) n1) hsw h1) fun D σ H q => by
  obtain ⟨c, g, tv, tr, F, a, d, s, hn, t, k⟩ := q
  refine ⟨c, g, tv, tr, F, a, fun rs g1 => match rs with | [r, s] => d.nx ((g1.set i (rsv r)).set j (rsv s)) | _ => False, s, t, fun rs g1 vs H1 F1 a1 t1 s1 hl => ?_⟩
  match rs, t1, vs, hl, s1 with
  | [r, s'], t1, [v, w], _, s1 =>
    refine ⟨v, w, rfl, k.nx _ _ H1 F1 a1 t1 ?_⟩
    have s2 : Sta X.K c g1 σ H1 (v :: w :: tv) (r :: s' :: tr) F1 a1 := by
      have e1 : Sta X.K c g1 σ H1 (w :: v :: tv) (s' :: r :: tr) F1 a1 := s1
      exact e1.pop (.cons e1.pop1.top (.cons e1.top e1.pop1.pop1.tmp))
    exact (s2.set i).set j
theorem s_par3 {i j l : Nat} {x y z : Str} {a b c : Expr} {ta tb tc : DE} {px py pz pt : Pos} {kt k2 : Nat} {pt2 : Pos} (hc : X.calm = true) (hN : X.N.Nodup) (hi : X.N[i]? = some x) (hj : X.N[j]? = some y) (hl : X.N[l]? = some z) (hij : i ≠ j) (hil : i ≠ l) (hjl : j ≠ l)
    (hx : X.env.scope.names.lookup x = some .local) (hy : X.env.scope.names.lookup y = some .local) (hz : X.env.scope.names.lookup z = some .local) (ha : PE X a (up X.K ta)) (hb : PE X b (up X.K tb)) (hcc : PE X c (up X.K tc))
    (hsw : swappedStores [.Tuple [.Name x px, .Name y py, .Name z pz] kt pt] (.Tuple [a, b, c] k2 pt2) X.env = pure (some [x, y, z]) := by rfl)
    (h1 : swapsWithSole [.Tuple [.Name x px, .Name y py, .Name z pz] kt pt] (.Tuple [a, b, c] k2 pt2) pos.line X.env = pure false := by rfl)
    (n1 : starEach [a, b, c] X.env = (false, eval a X.env) :: starEach [b, c] X.env := by rfl) (n2 : starEach [b, c] X.env = (false, eval b X.env) :: starEach [c] X.env := by rfl) (n3 : starEach [c] X.env = (false, eval c X.env) :: starEach [] X.env := by rfl) :
    PS X (.Assign [.Tuple [.Name x px, .Name y py, .Name z pz] kt pt] (.Tuple [a, b, c] k2 pt2) pos) (upS X.K (dPar3 i j l ta tb tc)) := ps_to (ps_par3 hc hN hi hj hl hij hil hjl hx hy hz (a_cons ha (a_cons hb (a_cons hcc a_nil n3) n2) n1) hsw h1) fun D σ H q => by
  obtain ⟨c, g, tv, tr, F, a, d, s, hn, t, k⟩ := q
  refine ⟨c, g, tv, tr, F, a, fun rs g1 => match rs with | [r, s, q] => d.nx (((g1.set i (rsv r)).set j (rsv s)).set l (rsv q)) | _ => False, s, t, fun rs g1 vs H1 F1 a1 t1 s1 hl => ?_⟩
  match rs, t1, vs, hl, s1 with
  | [r, s', q], t1, [v, w, y], _, s1 =>
    refine ⟨v, w, y, rfl, k.nx _ _ H1 F1 a1 t1 ?_⟩
    have s2 : Sta X.K c g1 σ H1 (v :: w :: y :: tv) (r :: s' :: q :: tr) F1 a1 := by
      have e1 : Sta X.K c g1 σ H1 (y :: w :: v :: tv) (q :: s' :: r :: tr) F1 a1 := s1
      exact e1.pop (.cons e1.pop1.pop1.top (.cons e1.pop1.top (.cons e1.top e1.pop1.pop1.pop1.tmp)))
    exact ((s2.set i).set j).set l
theorem s_parL {i j : Nat} {x y : Str} {a b : Expr} {tl : DL} {v : V} {z : Da} {px py pt : Pos} {kt k2 : Nat} {pt2 : Pos} (hc : X.calm = true) (hN : X.N.Nodup) (hi : X.N[i]? = some x) (hj : X.N[j]? = some y) (hij : i ≠ j)
    (hx : X.env.scope.names.lookup x = some .local) (hy : X.env.scope.names.lookup y = some .local) (ha : PE X a (upL X.K tl)) (hb : PE X b (tC v)) (hv : ∀ F, Rp X.K F v z)
    (hsw : swappedStores [.Tuple [.Name x px, .Name y py] kt pt] (.Tuple [a, b] k2 pt2) X.env = pure (some [x, y]) := by rfl) (h1 : swapsWithSole [.Tuple [.Name x px, .Name y py] kt pt] (.Tuple [a, b] k2 pt2) pos.line X.env = pure false := by rfl)
    (n1 : starEach [a, b] X.env = (false, eval a X.env) :: starEach [b] X.env := by rfl) (n2 : starEach [b] X.env = (false, eval b X.env) :: starEach [] X.env := by rfl) :
    PS X (.Assign [.Tuple [.Name x px, .Name y py] kt pt] (.Tuple [a, b] k2 pt2) pos) (upS X.K (dParL i j tl z)) := ps_to (ps_par hc hN hi hj hij hx hy (pa_cons ha (pa_cons hb pa_nil n2) n1) hsw h1) fun D σ H q => by
  obtain ⟨c, g, tv, tr, F, a, d, s, hn, t, k⟩ := q
  refine ⟨c, g, tv, tr, F, a, _, s, t, fun ds g1 w H1 F1 a1 t1 s1 n1 => ?_⟩
  refine ⟨w, v, rfl, k.nx _ _ H1 F1 a1 t1 ?_⟩
  exact Sta.set (r := .val z) ((s1.setOwn n1 i).push (r := .val z) (hv F1)) j
/-- x.append(e), x an own list -/
theorem s_app {i : Nat} {o : Expr} {apos cpos : Pos} {name : Str} (hv : PE X o (tVar i)) (he : PE X e (up X.K te))
    (hp : ∀ {t : TA} , PA X [e] t → PE X (.Call (.Attribute o "append" apos) [e] [] cpos) (tBM X.K "list" rAppend (tVar i) t)) (n1 : starEach [e] X.env = (false, eval e X.env) :: starEach [] X.env := by rfl)
    (h1 : swapsWith (.Call (.Attribute o "append" apos) [e] [] cpos) none pos.line X.env = pure false := by rfl) : PS X (.Expr (.Call (.Attribute o "append" apos) [e] [] cpos) pos) (upS X.K (dApp i te)) := ps_to (ps_expr (hp (pa_cons he pa_nil n1)) h1) fun D σ H q => by
  obtain ⟨c, g, tv, tr, F, a, d, s, hn, ⟨⟨ds, hd⟩, t⟩, k⟩ := q
  obtain ⟨v, h1, o, xs, rfl, q2, q3, q4, q5, q6⟩ := s.slot i _ hd
  refine ⟨_, h1, .inl ⟨rfl, xs, .inl (.inl q4)⟩, c, g, tv, tr, F, a, _, s, t, fun r g1 w H1 F1 a1 t1 s1 => ?_⟩
  cases r with
  | val z =>
    simp only at t1
    split at t1
    · rename_i es he
      obtain ⟨v', h1', o', ys, rfl, p2, p3, p4, p5, p6⟩ := s1.slot i _ he
      rw [h1] at h1'
      cases h1'
      refine ⟨o, ys, w, rfl, rfl, p4, by rw [p5.len]; exact Nat.lt_of_lt_of_le t1.1 (by decide), k.nx _ _ _ F1 a1 t1.2 (s1.pop1.mut he h1 (p5.app (.cons s1.top .nil)))⟩
    · exact t1.elim
  | _ => exact t1.elim
theorem s_ext {i : Nat} {o : Expr} {apos cpos : Pos} {name : Str} (hv : PE X o (tVar i)) (he : PE X e (up X.K te))
    (hp : ∀ {t : TA} , PA X [e] t → PE X (.Call (.Attribute o "extend" apos) [e] [] cpos) (tBM X.K "list" rExtend (tVar i) t)) (n1 : starEach [e] X.env = (false, eval e X.env) :: starEach [] X.env := by rfl)
    (h1 : swapsWith (.Call (.Attribute o "extend" apos) [e] [] cpos) none pos.line X.env = pure false := by rfl) : PS X (.Expr (.Call (.Attribute o "extend" apos) [e] [] cpos) pos) (upS X.K (dExt i te)) := ps_to (ps_expr (hp (pa_cons he pa_nil n1)) h1) fun D σ H q => by
  obtain ⟨c, g, tv, tr, F, a, d, s, hn, ⟨⟨ds, hd⟩, t⟩, k⟩ := q
  obtain ⟨v, h1, o, xs, rfl, q2, q3, q4, q5, q6⟩ := s.slot i _ hd
  refine ⟨_, h1, .inl ⟨rfl, xs, .inl (.inl q4)⟩, c, g, tv, tr, F, a, _, s, t, fun r g1 w H1 F1 a1 t1 s1 => ?_⟩
  cases r with
  | val z =>
    cases z with
    | list zs =>
      simp only at t1
      split at t1
      · rename_i es he
        obtain ⟨v', h1', o', ys, rfl, p2, p3, p4, p5, p6⟩ := s1.slot i _ he
        rw [h1] at h1'
        cases h1'
        have hw : Rp X.K F1 w (.list zs) := s1.top
        cases hw with
        | lst sq m =>
          refine ⟨o, _, ys, _, rfl, rfl, p4, s1.eh _ _ sq, by rw [p5.len, m.len]; exact mil t1.1, k.nx _ _ _ F1 a1 t1.2 (s1.pop1.mut he h1 (p5.app m))⟩
      · exact t1.elim
    | _ => exact t1.elim
  | _ => exact t1.elim
theorem s_while {c : Expr} (hp : PassesOwn (model X.prog X.w) X.A X.env X.xe) (hc : PT X c (upT X.K ct)) (hb : PSs X body (upS X.K t)) : PS X (.While c body [] pos) (upS X.K (dWhile ct t)) := ps_to (ps_while hp hc hb) fun D σ H q => by
  obtain ⟨c, g, tv, tr, F, a, d, s, hn, ⟨W, ⟨m, hm⟩, hw⟩, k⟩ := q
  refine ⟨fun m σ H => ∃ g F a, Sta X.K c g σ H tv tr F a ∧ W m g, ⟨m, g, F, a, s, hm⟩, fun m σ H hW => ?_⟩
  obtain ⟨g, F, a, s, hm⟩ := hW
  refine ⟨c, g, tv, tr, F, a, _, s, hw m g hm, fun b g1 H1 F1 a1 t1 s1 => ?_⟩
  cases b with
  | true =>
    rw [if_pos rfl]
    refine ⟨fun σ H => ∃ m', m' < m ∧ ∃ g F a, Sta X.K c g σ H tv tr F a ∧ W m' g, fun σ' H' h => h, c, g1, tv, tr, F1, a1, _, s1, hn, t1.1 rfl, ⟨fun g2 σ2 H2 F2 a2 ⟨m', h1, h2⟩ s2 => ⟨m', h1, g2, F2, a2, s2, h2⟩, k.nx, fun g2 σ2 H2 F2 a2 ⟨m', h1, h2⟩ s2 => ⟨m', h1, g2, F2, a2, s2, h2⟩, k.rv, k.ro⟩⟩
  | false =>
    rw [if_neg Bool.false_ne_true]
    exact k.nx g1 σ H1 F1 a1 (t1.2 rfl) s1
end
end Z

namespace Z
open L2 PySem PySem.Spec PyProof.Rows
open Evl (Ex ex_l ex_t ex_rd fresh_back)

/-! ### walks over data -/
structure WalkD (K : Fg) (J : It) (ds : List Da) (wv : List V) (wr : List Rv) : Prop where
  goes : ∀ (i : Nat) (F H : Hp) (a : Addr) (fu : Option Nat), Ex F H → Tm K F a fu wv wr → i < ds.length → J.go i H
  stops : ∀ (F H : Hp) (a : Addr) (fu : Option Nat), Ex F H → Tm K F a fu wv wr → J.stop ds.length H
  yields : ∀ (i : Nat) (F H : Hp) (a : Addr) (fu : Option Nat) (x : V) (H' : Hp), Ex F H → Tm K F a fu wv wr → i < ds.length → J.yld i H x H' → ∃ F' d, ds[i]? = some d ∧ Gr F H F' H' ∧ Rp K F' x d
theorem WalkD.walk {K : Fg} {J : It} {ds : List Da} {wv : List V} {wr : List Rv} (w : WalkD K J ds wv wr) : Walk J ds.length (fun H => ∃ F a fu, Ex F H ∧ Tm K F a fu wv wr) J.yld :=
  ⟨fun i H hi ⟨F, a, fu, e, t⟩ => w.goes i F H a fu e t hi, fun H ⟨F, a, fu, e, t⟩ => w.stops F H a fu e t, fun i H x H' hi _ y => y⟩
abbrev DW := Gs → (List Da → Gs → Prop) → Prop
def upI (K : Fg) (tw : DW) : TI := fun σ H R => ∃ c g tv tr F a post, Sta K c g σ H tv tr F a ∧ tw g post ∧
  ∀ ds g' H' F' a' J wv wr, post ds g' → Sta K c g' σ H' (wv ++ tv) (wr ++ tr) F' a' → wv.length = wr.length → hasSrc wr = false → WalkD K J ds wv wr → R J H'
def forD (t : DG) (tb : DS) : List Da → DS
  | [], d, g => d.nx g
  | x :: xs, d, g => t (.val x) g fun g1 => tb { d with nx := forD t tb xs d, ct := forD t tb xs d, bk := d.nx } g1
def dFor (tw : DW) (t : DG) (tb : DS) : DS := fun d g => tw g fun ds g1 => forD t tb ds d g1
theorem drop_at {α : Type} {l : List α} {i : Nat} {x : α} (h : l[i]? = some x) : l.drop i = x :: l.drop (i + 1) := by
  obtain ⟨hi, e⟩ := List.getElem?_eq_some_iff.mp h
  rw [List.drop_eq_getElem_cons hi, e]
section
variable {X : Cx} {tg iter : Expr} {body : List Stmt} {tw : DW} {t : DG} {tb : DS} {pos : Pos}
theorem s_for (hp : PassesOwn (model X.prog X.w) X.A X.env X.xe) (hc : X.calm = true) (hi : PI X tg iter (upI X.K tw)) (hg : PG X tg (upG X.K t)) (hb : PSs X body (upS X.K tb)) (hfs : ∀ x, foldedSetIterable iter X.env x = pure x := by intro _; rfl) :
    PS X (.For tg iter body [] pos) (upS X.K (dFor tw t tb)) := ps_to (ps_for hp hc hi hg hb hfs) fun D σ H q => by
  obtain ⟨c, g, tv, tr, F, a, d, s, hn, q, k⟩ := q
  refine ⟨c, g, tv, tr, F, a, _, s, q, fun ds g' H' F' a' J wv wr hf s' hl hw wd => ?_⟩
  have w := wd.walk
  have sp : ∀ {g : Gs} {σ : L2.St} {H F : Hp} {a : Addr}, Sta X.K c g σ H (wv ++ tv) (wr ++ tr) F a → Tm X.K F a g.fu wv wr ∧ Tm X.K F a g.fu tv tr := fun s => Tm.split hl s.tmp
  refine for_it w (fun i σ H => ∃ g F a, Sta X.K c g σ H (wv ++ tv) (wr ++ tr) F a ∧ forD t tb (ds.drop i) d g) ⟨g', F', a', s', hf⟩ (fun i σ H hi p => ?_) (fun i x σ H H' hi p y => ?_) (fun σ H p => ?_)
  · obtain ⟨g, F, a, s, _⟩ := p
    exact ⟨F, a, g.fu, s.eh, (sp s).1⟩
  · obtain ⟨g, F, a, s, f⟩ := p
    obtain ⟨F2, dx, e1, gr, rx⟩ := wd.yields i F H a g.fu x H' s.eh (sp s).1 hi y
    rw [drop_at e1] at f
    refine ⟨c, g, wv ++ tv, wr ++ tr, F2, a, .val dx, _, (s.grow gr).push (r := .val dx) rx, f, fun g1 σ1 H1 F1 a1 t1 s1 => ?_⟩
    refine ⟨c, g1, wv ++ tv, wr ++ tr, F1, a1, _, s1, hasSrc_app hw hn, t1, ⟨fun g2 σ2 H2 F2 a2 h s2 => ⟨g2, F2, a2, s2, h⟩, fun g2 σ2 H2 F2 a2 h s2 => k.nx g2 σ2 H2 F2 a2 h (s2.pop (sp s2).2), fun g2 σ2 H2 F2 a2 h s2 => ⟨g2, F2, a2, s2, h⟩, fun x g2 σ2 v H2 F2 a2 h s2 => ?_, fun es g2 σ2 v H2 F2 a2 h s2 n2 => ?_⟩⟩
    · exact k.rv x g2 σ2 v H2 F2 a2 h ((s2.pop1.pop (sp s2.pop1).2).push (r := .val x) s2.top)
    · exact k.ro es g2 σ2 v H2 F2 a2 h (s2.pop (sp s2).2) n2
  · obtain ⟨g, F, a, s, f⟩ := p
    rw [List.drop_length] at f
    exact k.nx g σ H F a f (s.pop (sp s).2)
end
/-! what is walked -/
theorem walkD_list {K : Fg} {p : Addr} {ds : List Da} : WalkD K (Itl K p) ds [.ref p] [.val (.list ds)] := by
  have get : ∀ {F H : Hp} {a : Addr} {fu : Option Nat}, Ex F H → Tm K F a fu [.ref p] [.val (.list ds)] → ∃ xs, SqL K H p xs ∧ Rps K F xs ds := fun {F H a fu} e t => by
    cases t with
    | cons h _ =>
      have h' : Rp K F (.ref p) (.list ds) := h
      cases h' with
      | lst sq m => exact ⟨_, .inl (.inl (e _ _ sq)), m⟩
  refine ⟨fun i F H a fu e t hi => ?_, fun F H a fu e t => ?_, fun i F H a fu x H' e t hi y => ?_⟩
  · obtain ⟨xs, sq, m⟩ := get e t
    obtain ⟨v, h1, _⟩ := m.get (List.getElem?_eq_getElem hi)
    exact ⟨xs, v, sq, h1⟩
  · obtain ⟨xs, sq, m⟩ := get e t
    exact ⟨xs, sq, Nat.le_of_eq m.len⟩
  · obtain ⟨xs, sq, m⟩ := get e t
    obtain ⟨v, h1, h2⟩ := m.get (List.getElem?_eq_getElem hi)
    obtain ⟨rfl, hx⟩ := y
    rw [hx xs sq] at h1
    cases h1
    exact ⟨F, _, List.getElem?_eq_getElem hi, Gr.refl e, h2⟩
theorem walkD_tup {K : Fg} {p : Addr} {ds : List Da} : WalkD K (Itt K p) ds [.ref p] [.val (.tuple ds)] := by
  have get : ∀ {F H : Hp} {a : Addr} {fu : Option Nat}, Ex F H → Tm K F a fu [.ref p] [.val (.tuple ds)] → ∃ xs, SqT K H p xs ∧ Rps K F xs ds := fun {F H a fu} e t => by
    cases t with
    | cons h _ =>
      have h' : Rp K F (.ref p) (.tuple ds) := h
      cases h' with
      | tup sq m => exact ⟨_, ex_t e sq, m⟩
  refine ⟨fun i F H a fu e t hi => ?_, fun F H a fu e t => ?_, fun i F H a fu x H' e t hi y => ?_⟩
  · obtain ⟨xs, sq, m⟩ := get e t
    obtain ⟨v, h1, _⟩ := m.get (List.getElem?_eq_getElem hi)
    exact ⟨xs, v, sq, h1⟩
  · obtain ⟨xs, sq, m⟩ := get e t
    exact ⟨xs, sq, Nat.le_of_eq m.len⟩
  · obtain ⟨xs, sq, m⟩ := get e t
    obtain ⟨v, h1, h2⟩ := m.get (List.getElem?_eq_getElem hi)
    obtain ⟨rfl, hx⟩ := y
    rw [hx xs sq] at h1
    cases h1
    exact ⟨F, _, List.getElem?_eq_getElem hi, Gr.refl e, h2⟩
theorem walkD_scr {K : Fg} {p : Addr} {ns : List Int} : WalkD K (Itl K p) (ns.map PyData.int) [.ref p] [.scr ns] := by
  have get : ∀ {F H : Hp} {a : Addr} {fu : Option Nat}, Ex F H → Tm K F a fu [.ref p] [.scr ns] → SqL K H p (ns.map V.int) := fun {F H a fu} e t => by
    cases t with
    | cons h _ =>
      obtain ⟨b, e1, sq⟩ := h
      cases e1
      exact ex_l e sq
  refine ⟨fun i F H a fu e t hi => ?_, fun F H a fu e t => ?_, fun i F H a fu x H' e t hi y => ?_⟩
  · rw [List.length_map] at hi
    exact ⟨_, _, get e t, by rw [List.getElem?_map, List.getElem?_eq_getElem hi]; rfl⟩
  · exact ⟨_, get e t, by rw [List.length_map, List.length_map]; exact Nat.le_refl _⟩
  · obtain ⟨rfl, hx⟩ := y
    rw [List.length_map] at hi
    have h1 := hx _ (get e t)
    rw [List.getElem?_map, List.getElem?_eq_getElem hi] at h1
    cases h1
    exact ⟨F, .int ns[i], by rw [List.getElem?_map, List.getElem?_eq_getElem hi]; rfl, Gr.refl e, .int _⟩
def dItems (te : DE) : DW := fun g Q => te g fun r g1 => match r with
  | .val (.list ds) => Q ds g1
  | .val (.tuple ds) => Q ds g1
  | .scr ns => Q (ns.map PyData.int) g1
  | _ => False
def rangeD (lo : Int) (n : Nat) : List Da := (List.range n).map fun i => .int (lo + (i : Nat))
def dRange1 (te : DE) : DW := fun g Q => te g fun r g1 => match r with
  | .val (.int j) => j < 2 ^ 62 ∧ -(2 ^ 62) ≤ j ∧ Q (rangeD 0 j.toNat) g1
  | _ => False
def dRange2 (ta tb : DE) : DW := fun g Q => ta g fun x g1 => tb g1 fun y g2 => match x, y with
  | .val (.int i), .val (.int j) => (-(2 ^ 62) ≤ i ∧ i < 2 ^ 62 ∧ -(2 ^ 62) ≤ j ∧ j < 2 ^ 62) ∧ Q (rangeD i (j - i).toNat) g2
  | _, _ => False
def zipD : List Da → List Da → List Da
  | x :: xs, y :: ys => .tuple [x, y] :: zipD xs ys
  | _, _ => []
def dZip (ta tb : DE) : DW := fun g Q => ta g fun x g1 => tb g1 fun y g2 => match x, y with
  | .val (.tuple xs), .val (.tuple ys) => Q (zipD xs ys) g2
  | .val (.list xs), .val (.list ys) => Q (zipD xs ys) g2
  | _, _ => False
def dRev (te : DE) : DW := fun g Q => te g fun r g1 => match r with
  | .val (.list ds) => Q ds.reverse g1
  | .val (.tuple ds) => Q ds.reverse g1
  | _ => False
theorem zipD_len : ∀ (xs ys : List Da), (zipD xs ys).length = min xs.length ys.length
  | [], _ => by simp [zipD]
  | _ :: _, [] => by simp [zipD]
  | x :: xs, y :: ys => by
    show (zipD xs ys).length + 1 = _
    rw [zipD_len xs ys, List.length_cons, List.length_cons]
    omega
theorem zipD_get : ∀ (xs ys : List Da) (i : Nat) (x y : Da), xs[i]? = some x → ys[i]? = some y → (zipD xs ys)[i]? = some (.tuple [x, y])
  | [], _, _, _, _, h, _ => by simp at h
  | _ :: _, [], _, _, _, _, h => by simp at h
  | a :: xs, b :: ys, 0, x, y, h1, h2 => by simp at h1 h2; subst h1; subst h2; rfl
  | a :: xs, b :: ys, i + 1, x, y, h1, h2 => zipD_get xs ys i x y (by simpa using h1) (by simpa using h2)
section
variable {X : Cx} {tg l b : Expr} {te ta tb : DE} {p pos : Pos}
/-- a list, a tuple, the script -/
theorem i_items (hl : PE X l (up X.K te)) : PI X tg l (upI X.K (dItems te)) := by
  refine ⟨fun pins st σ H R I q => ?_⟩
  obtain ⟨c, g, tv, tr, F, a, post, s, t, k⟩ := q
  refine thn (hl.run pins st σ H (fun v H1 => (∃ p xs, v = .ref p ∧ SqL X.K H1 p xs ∧ R (Itl X.K p) H1) ∨ ∃ p xs, v = .ref p ∧ SqT X.K H1 p xs ∧ R (Itt X.K p) H1) I ?_) fun u s1 ⟨x, H1, I1, r1, q1⟩ => ?_
  · refine ⟨c, g, tv, tr, F, a, _, s, t, fun r g1 v H1 F1 a1 t1 s1 => ?_⟩
    cases r with
    | val d =>
      cases d with
      | list ds =>
        have hr : Rp X.K F1 v (.list ds) := s1.top
        cases hr with
        | lst sq m => exact .inl ⟨_, _, rfl, .inl (.inl (s1.eh _ _ sq)), k ds g1 H1 F1 a1 _ [_] [.val (.list ds)] t1 s1 rfl rfl walkD_list⟩
      | tuple ds =>
        have hr : Rp X.K F1 v (.tuple ds) := s1.top
        cases hr with
        | tup sq m => exact .inr ⟨_, _, rfl, ex_t s1.eh sq, k ds g1 H1 F1 a1 _ [_] [.val (.tuple ds)] t1 s1 rfl rfl walkD_tup⟩
      | _ => exact t1.elim
    | scr ns =>
      obtain ⟨b, rfl, sq⟩ := s1.top
      exact .inl ⟨_, _, rfl, ex_l s1.eh sq, k _ g1 H1 F1 a1 _ [_] [.scr ns] t1 s1 rfl rfl walkD_scr⟩
    | src => exact t1.elim
    | ob _ => exact t1.elim
  · have fr := I1.hok.fresh (Nat.le_refl s1.heap.objs.size)
    have fp : ∀ b ∈ [s1.heap.objs.size], FpOk X pins H1 b := fun b hb => by
      cases List.mem_singleton.mp hb
      exact I1.fpOk (Nat.le_refl _) fr
    rcases q1 with ⟨p, xs, rfl, sq, q⟩ | ⟨p, xs, rfl, sq, q⟩
    · cases r1
      obtain ⟨its, rv, pl, hz⟩ := I1.list sq
      exact wpAny_pyIter_list pl.isList ⟨_, _, _, _, H1, rfl, I1.kept (t' := s1.toks) fun b o e => Heap.get?_push_of_some _ e, turn_list p _, ⟨_, Heap.get?_push_size _ rfl, rfl, rfl⟩, fp, q⟩
    · cases r1
      obtain ⟨its, rv, pl, hz⟩ := I1.tuple sq
      exact wpAny_pyIter_tuple (show s1.heap.IsTuple p its.toArray from pl) ⟨_, _, _, _, H1, rfl, I1.kept (t' := s1.toks) fun b o e => Heap.get?_push_of_some _ e, turn_tuple p _, ⟨_, Heap.get?_push_size _ rfl, rfl, rfl⟩, fp, q⟩
theorem pi_to {w w' : TI} (h : PI X tg l w) (i : ∀ σ H R, w' σ H R → w σ H R) : PI X tg l w' := ⟨fun pins s σ H R I q => h.run pins s σ H R I (i _ _ _ q)⟩
theorem rangeD_get {lo : Int} {n i : Nat} (h : i < n) : (rangeD lo n)[i]? = some (.int (lo + (i : Nat))) := by
  unfold rangeD
  rw [List.getElem?_map, List.getElem?_range h]
  rfl
theorem rangeD_len (lo : Int) (n : Nat) : (rangeD lo n).length = n := by
  unfold rangeD
  rw [List.length_map, List.length_range]
theorem walkD_range {K : Fg} {lo : Int} {n : Nat} : WalkD K (Itr lo n) (rangeD lo n) [] [] := by
  refine ⟨fun i F H a fu e t hi => ?_, fun F H a fu e t => ?_, fun i F H a fu x H' e t hi y => ?_⟩
  · rw [rangeD_len] at hi; exact hi
  · rw [rangeD_len]; exact Nat.le_refl n
  · rw [rangeD_len] at hi
    obtain ⟨rfl, rfl⟩ := y
    exact ⟨F, _, rangeD_get hi, Gr.refl e, .int _⟩
theorem i_range1 (hg : Gl X "range") (hm : X.mg "range" = none) (ha : PE X l (up X.K te)) (hs : starEach [l] X.env = [(false, eval l X.env)] := by rfl) : PI X tg (.Call (.Name "range" p) [l] [] pos) (upI X.K (dRange1 te)) :=
  pi_to (pi_range1 hg hm (pa_cons ha pa_nil hs) hs) fun σ H R q => by
  obtain ⟨c, g, tv, tr, F, a, post, s, t, k⟩ := q
  refine ⟨c, g, tv, tr, F, a, _, s, t, fun r g1 v H1 F1 a1 t1 s1 => ?_⟩
  cases r with
  | val d =>
    cases d with
    | int j =>
      have hr : Rp X.K F1 v (.int j) := s1.top
      cases hr
      exact ⟨j, rfl, t1.2.1, t1.1, k _ g1 H1 F1 a1 _ [] [] t1.2.2 s1.pop1 rfl rfl walkD_range⟩
    | _ => exact t1.elim
  | _ => exact t1.elim
theorem i_range2 (hg : Gl X "range") (hm : X.mg "range" = none) (ha : PE X l (up X.K ta)) (hb : PE X b (up X.K tb)) (hs : starEach [l, b] X.env = [(false, eval l X.env), (false, eval b X.env)] := by rfl) (hs2 : starEach [b] X.env = [(false, eval b X.env)] := by rfl) :
    PI X tg (.Call (.Name "range" p) [l, b] [] pos) (upI X.K (dRange2 ta tb)) := pi_to (pi_range2 hg hm (pa_cons ha (pa_cons hb pa_nil hs2) (by rw [hs, hs2])) hs hs2) fun σ H R q => by
  obtain ⟨c, g, tv, tr, F, a, post, s, t, k⟩ := q
  refine ⟨c, g, tv, tr, F, a, _, s, t, fun r g1 v H1 F1 a1 t1 s1 => ?_⟩
  refine ⟨c, g1, _, _, F1, a1, _, s1, t1, fun r2 g2 v2 H2 F2 a2 t2 s2 => ?_⟩
  split at t2
  · rename_i i j
    have hr : Rp X.K F2 v (.int i) := s2.pop1.top
    have hr2 : Rp X.K F2 v2 (.int j) := s2.top
    cases hr
    cases hr2
    exact ⟨i, j, rfl, t2.1, k _ g2 H2 F2 a2 _ [] [] t2.2 s2.pop1.pop1 rfl rfl walkD_range⟩
  · exact t2.elim
end
end Z

namespace Z
open L2 PySem PySem.Spec PyProof.Rows
open Evl (Ex ex_l ex_t ex_rd fresh_back)

/-! ### targets of a comprehension: they store into its own slots alone -/
def upGw (K : Fg) (vs : List Nat) (t : DG) : TG := fun v σ H Q => ∃ c g tv tr F a r post, Sta K c g σ H (v :: tv) (r :: tr) F a ∧ t r g post ∧
  ∀ g' σ' H' F' a', post g' → Sta K c g' σ' H' tv tr F' a' → wipe σ' vs = wipe σ vs → Q σ' H'
def upGsw (K : Fg) (vs : List Nat) (t : DGs) : TGs := fun us σ H Q => ∃ c g tv tr F a ds post, Sta K c g σ H (us ++ tv) (ds.map Rv.val ++ tr) F a ∧ us.length = ds.length ∧ t ds g post ∧
  ∀ g' σ' H' F' a', post g' → Sta K c g' σ' H' tv tr F' a' → wipe σ' vs = wipe σ vs → Q σ' H'
theorem wipe_get {σ : L2.St} : ∀ {vs : List Nat} {i : Nat}, i ∉ vs → (wipe σ vs)[i]? = σ[i]?
  | [], _, _ => rfl
  | v :: vs, i, h => by
    show ((wipe σ vs).set v none)[i]? = _
    rw [List.getElem?_set_ne (fun e => h (by rw [e]; exact List.mem_cons_self)), wipe_get fun z => h (List.mem_cons_of_mem _ z)]
theorem wipe_in {σ : L2.St} : ∀ {vs : List Nat} {i : Nat}, i ∈ vs → i < σ.length → (wipe σ vs)[i]? = some none
  | v :: vs, i, h, hl => by
    show ((wipe σ vs).set v none)[i]? = _
    by_cases e : v = i
    · subst e
      exact List.getElem?_set_self (by rw [wipe_length]; exact hl)
    · rw [List.getElem?_set_ne e]
      rcases List.mem_cons.mp h with z | z
      · exact absurd z.symm e
      · exact wipe_in z hl
theorem wipe_set {σ : L2.St} {vs : List Nat} {i : Nat} {x : Option V} (h : i ∈ vs) : wipe (σ.set i x) vs = wipe σ vs := by
  apply List.ext_getElem?
  intro j
  by_cases hj : j ∈ vs
  · by_cases hl : j < σ.length
    · rw [wipe_in hj (by rw [List.length_set]; exact hl), wipe_in hj hl]
    · rw [List.getElem?_eq_none (by rw [wipe_length, List.length_set]; omega), List.getElem?_eq_none (by rw [wipe_length]; omega)]
  · rw [wipe_get hj, wipe_get hj, List.getElem?_set_ne (fun e => hj (by rw [← e]; exact h))]
section
variable {X : Cx} {pos : Pos} {e : Expr} {es : List Expr} {vs : List Nat} {K : Fg}
theorem gw_name {i : Nat} (hk : K = X.K) (h : PG X e (gName i)) (hi : i ∈ vs) : PG X e (upGw K vs (dN i)) := pg_to h fun v σ H Q q => by
  subst hk
  obtain ⟨c, g, tv, tr, F, a, r, post, s, t, k⟩ := q
  exact k _ _ H F a t (s.set i) (wipe_set hi)
theorem gsw_nil : PGs X [] (upGsw K vs dTn) := pgs_to pgs_nil fun us σ H Q q => by
  obtain ⟨c, g, tv, tr, F, a, ds, post, s, hl, t, k⟩ := q
  cases ds with
  | nil =>
    have : us = [] := List.length_eq_zero_iff.mp hl
    subst this
    exact ⟨rfl, k _ _ H F a t s rfl⟩
  | cons d r => exact t.elim
theorem gsw_cons {t : DG} {u : DGs} (h : PG X e (upGw K vs t)) (hr : PGs X es (upGsw K vs u)) (hs : (assignEach (e :: es) X.env).map (·.2) = assign e X.env :: (assignEach es X.env).map (·.2) := by rfl) : PGs X (e :: es) (upGsw K vs (dTc t u)) := pgs_to (pgs_cons h hr hs) fun us σ H Q q => by
  obtain ⟨c, g, tv, tr, F, a, ds, post, s, hl, t, k⟩ := q
  cases ds with
  | nil => exact t.elim
  | cons d r =>
    cases us with
    | nil => simp at hl
    | cons v us =>
      refine ⟨v, us, rfl, c, g, _, _, F, a, _, _, s, t, fun g1 σ1 H1 F1 a1 t1 s1 w1 => ?_⟩
      exact ⟨c, g1, tv, tr, F1, a1, r, _, s1, by simpa using hl, t1, fun g2 σ2 H2 F2 a2 t2 s2 w2 => k g2 σ2 H2 F2 a2 t2 s2 (w2.trans w1)⟩
theorem gw_tup {n k : Nat} {t : DGs} (hk : K = X.K) (hc : X.calm = true) (h : PGs X es (upGsw K vs t)) (hn : (assignEach es X.env).length = n := by rfl) (hf : List.findIdx? (fun x => x.1) (assignEach es X.env) = none := by rfl) : PG X (.Tuple es k pos) (upGw K vs (dT n t)) :=
  pg_to (pg_tup hc h hn hf) fun v σ H Q q => by
  subst hk
  obtain ⟨c, g, tv, tr, F, a, r, post, s, t, k⟩ := q
  cases r with
  | val d =>
    cases d with
    | tuple ds =>
      have hr : Rp X.K F v (.tuple ds) := s.top
      cases hr with
      | tup sq m =>
        refine ⟨_, _, rfl, ex_t s.eh sq, by rw [m.len]; exact t.1, c, g, tv, tr, F, a, ds, post, s.pop ((Tm.ofRps m).app s.pop1.tmp), m.len, t.2, k⟩
    | _ => exact t.elim
  | _ => exact t.elim
end
/-! ### list comprehensions -/
def noOwn : Option Sv → Option Sv
  | some (.own _) => none
  | x => x
def wipeS (sl : List (Option Sv)) : List Nat → List (Option Sv)
  | [] => sl
  | v :: vs => (wipeS sl vs).set v none
def hide (vs : List Nat) (sl : List (Option Sv)) : List (Option Sv) := wipeS (sl.map noOwn) vs
theorem wipeS_len (sl : List (Option Sv)) : ∀ vs, (wipeS sl vs).length = sl.length
  | [] => rfl
  | v :: vs => by
    show ((wipeS sl vs).set v none).length = _
    rw [List.length_set, wipeS_len sl vs]
theorem wipeS_some {sl : List (Option Sv)} : ∀ {vs : List Nat} {i : Nat} {s : Sv}, (wipeS sl vs)[i]? = some (some s) → i ∉ vs ∧ sl[i]? = some (some s)
  | [], _, _, h => ⟨by simp, h⟩
  | v :: vs, i, s, h => by
    rcases set_some (show ((wipeS sl vs).set v none)[i]? = some (some s) from h) with ⟨_, _, e⟩ | ⟨ne, e⟩
    · cases e
    · obtain ⟨h1, h2⟩ := wipeS_some e
      exact ⟨by simp only [List.mem_cons, not_or]; exact ⟨ne, h1⟩, h2⟩
theorem hide_some {sl : List (Option Sv)} {vs : List Nat} {i : Nat} {s : Sv} (h : (hide vs sl)[i]? = some (some s)) : i ∉ vs ∧ sl[i]? = some (some s) ∧ ∀ ds, s ≠ .own ds := by
  obtain ⟨h1, h2⟩ := wipeS_some h
  rw [List.getElem?_map] at h2
  cases q : sl[i]? with
  | none => rw [q] at h2; cases h2
  | some x =>
    rw [q] at h2
    have h3 : noOwn x = some s := Option.some.inj h2
    refine ⟨h1, ?_, fun ds e => ?_⟩
    · cases x with
      | none => cases h3
      | some y => cases y <;> first | (cases h3; rfl) | cases h3
    · subst e
      cases x with
      | none => cases h3
      | some y => cases y <;> cases h3
def fuN (fu fu' : Option Nat) : Option Nat := match fu with
  | some _ => fu'
  | none => none
def lcD (sl : List (Option Sv)) (t : DG) (tt : DT) (te : DE) : List Da → List Da → Option Nat → (List Da → Option Nat → Prop) → Prop
  | [], acc, fu, Q => Q acc fu
  | x :: xs, acc, fu, Q => t (.val x) ⟨sl, fu, false⟩ fun g1 => tt g1 fun b g2 =>
    (b = true → te g2 fun r g3 => match r with
      | .val d => acc.length < 1000000 ∧ lcD sl t tt te xs (acc ++ [d]) (fuN fu g3.fu) Q
      | _ => False) ∧ (b = false → lcD sl t tt te xs acc (fuN fu g2.fu) Q)
def dYes : DT := fun g Q => Q true g
def dLc (vs : List Nat) (tw : DW) (t : DG) (tt : DT) (te : DE) : DL := fun g Q => tw g fun ds g1 => lcD (hide vs g1.sl) t tt te ds [] g1.fu fun acc fu' => Q acc { g1 with fu := fu' }
section
variable {K : Fg} {F1 H1 F H : Hp} {a D : Addr} {fu0 fu : Option Nat} {acc : List Da}
/-- behind a turn: from the nested entry back to the one ahead of the comprehension -/
theorem Out.turn (o : Out K F1 H1 a fu0 fu F H (.ref D) (.own acc)) {g : Gs} {σ : L2.St} {H4 F4 : Hp} {tv : List V} {tr : List Rv} {a4 : Addr} (hfu : fu0 = none → fu = none) (hD : fu0 ≠ none → D ≠ a) (s : Sta K ⟨F, H, if fu = none then none else some a⟩ g σ H4 tv tr F4 a4) :
    (fu0 ≠ none → a4 = a) ∧ F4 D = none ∧ (fu0 = none → fuN fu g.fu = none) ∧ (∃ xs, H4 D = some (.lst xs) ∧ Rps K F4 xs acc) ∧ Out K F1 H1 a fu0 (fuN fu g.fu) F4 H4 (.ref D) (.own acc) := by
  obtain ⟨o', xs, eD, d1, d2, d3, d4⟩ := o.rep
  cases eD
  have fne : fu0 ≠ none → fu ≠ none := fun hf => by
    obtain ⟨n, e, _⟩ := o.src hf
    exact ne_none e
  have ext1 : fu0 ≠ none → (if fu = none then none else some a : Option Addr) = some a := fun hf => if_neg (fne hf)
  have ext0 : ∀ b, (fu0 ≠ none → b ≠ a) → (if fu = none then none else some a : Option Addr) ≠ some b := fun b hb => by
    by_cases hf : fu = none
    · rw [if_pos hf]; exact fun z => nomatch z
    · rw [if_neg hf]
      intro z
      cases z
      exact hb (fun z => hf (hfu z)) rfl
  have a4e : fu0 ≠ none → a4 = a ∧ g.fu ≠ none := fun hf => s.ex a (ext1 hf)
  have hD4 : H4 D = some (.lst xs) := s.keep D _ (ext0 D hD) d3
  have hF4 : F4 D = none := by
    cases q : F4 D with
    | none => rfl
    | some u =>
      rcases s.new D (ne_none q) with z | z
      · exact absurd d2 z
      · have z' : H D = none := z
        rw [d3] at z'; cases z'
  have hn : fu0 = none → fuN fu g.fu = none := fun z => by
    rw [hfu z]; rfl
  refine ⟨fun hf => (a4e hf).1, hF4, hn, ⟨xs, hD4, d4.up s.e0⟩, ⟨o.f.trans s.e0, s.eh, fun b u hb e => s.keep b u (ext0 b hb) (o.keep b u hb e), fun b q => ?_, fun hf => ?_, ⟨D, xs, rfl, d1, hF4, hD4, d4.up s.e0⟩⟩⟩
  · rcases s.new b q with z | z
    · exact o.new b z
    · have z' : H b = none := z
      refine .inr ?_
      cases e : H1 b with
      | none => rfl
      | some u =>
        by_cases hb : fu0 ≠ none → b ≠ a
        · rw [o.keep b u hb e] at z'; cases z'
        · have hb1 : fu0 ≠ none := fun w => hb fun w' => absurd w w'
          have hb2 : b = a := Classical.byContradiction fun w => hb fun _ => w
          obtain ⟨n, _, _, x, y, w, q', _⟩ := o.src hb1
          rw [hb2, q'] at z'; cases z'
  · obtain ⟨e1, e2⟩ := a4e hf
    subst e1
    cases q : g.fu with
    | none => exact absurd q e2
    | some n =>
      obtain ⟨h1, _, h3⟩ := s.src n q
      cases q2 : fu with
      | none => exact absurd q2 (fne hf)
      | some m => exact ⟨n, rfl, h1, h3⟩
/-- the list at D grows -/
theorem Out.grow (o : Out K F1 H1 a fu0 fu F H (.ref D) (.own acc)) (hD : fu0 ≠ none → D ≠ a) {xs : List V} {v : V} {d : Da} (hx : H D = some (.lst xs)) (m : Rps K F xs acc) (r : Rp K F v d) : Out K F1 H1 a fu0 fu F (upd H D (.lst (xs ++ [v]))) (.ref D) (.own (acc ++ [d])) := by
  obtain ⟨o', ys, eD, d1, d2, d3, d4⟩ := o.rep
  cases eD
  refine ⟨o.f, fun b u q => ?_, fun b u hb e => ?_, o.new, fun hf => ?_, ⟨D, _, rfl, d1, d2, upd_same, m.app (.cons r .nil)⟩⟩
  · have nb : b ≠ D := fun z => by rw [z, d2] at q; cases q
    rw [upd_ne nb]; exact o.s b u q
  · have nb : b ≠ D := fun z => by rw [z, d1] at e; cases e
    rw [upd_ne nb]; exact o.keep b u hb e
  · obtain ⟨n, h1, h2, x, y, w, q', h3⟩ := o.src hf
    exact ⟨n, h1, h2, x, y, w, by rw [upd_ne (fun z => hD hf z.symm)]; exact q', h3⟩
end
theorem lc_sta {K : Fg} {c : Con} {g1 : Gs} {σ : L2.St} {H1 F1 : Hp} {tv : List V} {tr : List Rv} {a : Addr} (s : Sta K c g1 σ H1 tv tr F1 a) (vs : List Nat) {fu : Option Nat} {F H : Hp} {D : Addr} {acc : List Da} (o : Out K F1 H1 a g1.fu fu F H (.ref D) (.own acc)) (hfu : g1.fu = none → fu = none) :
    Sta K ⟨F, H, if fu = none then none else some a⟩ ⟨hide vs g1.sl, fu, false⟩ (wipe σ vs) H tv tr F a := by
  have fne : g1.fu ≠ none → fu ≠ none := fun hf => by
    obtain ⟨n, e, _⟩ := o.src hf
    exact ne_none e
  have bne : fu ≠ none → g1.fu ≠ none := fun hf z => hf (hfu z)
  have tm : Tm K F a fu tv tr := by
    cases q : g1.fu with
    | none =>
      have t := s.tmp.up o.f
      rw [q] at t
      rw [hfu q]
      exact t
    | some n => exact (s.tmp.up o.f).refu (fne (ne_none q))
  refine ⟨Ex.refl F, o.s, fun b u _ e => e, fun b q => .inl q, fun b e => ?_, fun z => (by cases z), fun n e => ?_, tm, ?_, fun i sv h => ?_, fun i j ds es _ h => ?_⟩
  · by_cases hf : fu = none
    · simp [hf] at e
    · simp [hf] at e
      exact ⟨e, hf⟩
  · have e' : fu = some n := e
    obtain ⟨n', h1, h2, h3⟩ := o.src (bne (ne_none e'))
    rw [e'] at h1
    cases h1
    exact ⟨h2, .inl (if_neg (ne_none e')), h3⟩
  · show (wipe σ vs).length = (hide vs g1.sl).length
    rw [wipe_length]
    unfold hide
    rw [wipeS_len, List.length_map]
    exact s.len
  · obtain ⟨h1, h2, h3⟩ := hide_some (show (hide vs g1.sl)[i]? = some (some sv) from h)
    obtain ⟨v, w1, w2⟩ := s.slot i sv h2
    refine ⟨v, by rw [wipe_get h1]; exact w1, ?_⟩
    cases sv with
    | val d => exact Rp.up w2 o.f
    | src => exact ⟨w2.1, fne w2.2⟩
    | scr ns => obtain ⟨b, z1, z2⟩ := w2; exact ⟨b, z1, ex_l o.f z2⟩
    | ob k => exact ObOk.up o.f w2
    | own ds => exact absurd rfl (h3 ds)
  · obtain ⟨_, _, h3⟩ := hide_some (show (hide vs g1.sl)[i]? = some (some (Sv.own ds)) from h)
    exact absurd rfl (h3 ds)
section
variable {K : Fg} {vs : List Nat} {tw : DW} {t : DG} {tt : DT} {te : DE}
theorem lc_main : ∀ σ H Q, upL K (dLc vs tw t tt te) σ H Q → tLc (upI K tw) (upGw K vs t) (upT K tt) (up K te) vs σ H Q := fun σ H Q q => by
  obtain ⟨c, g, tv, tr, F, a, post, s, q, k⟩ := q
  refine ⟨c, g, tv, tr, F, a, _, s, q, fun ds g1 H1 F1 a1 J wv wr hf s1 hl hw wd D hD => ?_⟩
  have sp : ∀ {g : Gs} {c : Con} {σ : L2.St} {H F : Hp} {a : Addr}, Sta K c g σ H (wv ++ tv) (wr ++ tr) F a → Tm K F a g.fu wv wr ∧ Tm K F a g.fu tv tr := fun s => Tm.split hl s.tmp
  have srcH : g1.fu ≠ none → ∃ n, g1.fu = some n ∧ F1 a1 = none ∧ SrcAt H1 a1 n := fun hf => by
    cases q : g1.fu with
    | none => exact absurd q hf
    | some n => exact ⟨n, rfl, (s1.src n q).1, (s1.src n q).2.2⟩
  have Da1 : g1.fu ≠ none → D ≠ a1 := fun hf e => by
    obtain ⟨n, _, _, x, y, z, q, _⟩ := srcH hf
    rw [← e, hD] at q; cases q
  have o0 : Out K F1 H1 a1 g1.fu g1.fu F1 (upd H1 D (.lst [])) (.ref D) (.own []) := by
    have eH : Ex H1 (upd H1 D (.lst [])) := Ex.new hD
    refine ⟨Ex.refl F1, s1.eh.trans eH, fun b u _ e => eH b u e, fun b q => .inl q, fun hf => ?_, ⟨D, [], rfl, hD, fresh_back s1.eh hD, upd_same, .nil⟩⟩
    obtain ⟨n, h1, h2, x, y, z, q, h3⟩ := srcH hf
    exact ⟨n, h1, h2, x, y, z, eH _ _ q, h3⟩
  refine lc_it wd.walk (fun i H => ∃ F fu acc, Out K F1 H1 a1 g1.fu fu F H (.ref D) (.own acc) ∧ (g1.fu = none → fu = none) ∧ lcD (hide vs g1.sl) t tt te (ds.drop i) acc fu fun acc fu' => post acc { g1 with fu := fu' }) ⟨F1, g1.fu, [], o0, id, hf⟩ (fun i H hi p => ?_) (fun i x H H' hi p y => ?_) (fun H p => ?_)
  · obtain ⟨F, fu, acc, o, hfu, _⟩ := p
    have s2 := lc_sta s1 vs o hfu
    exact ⟨F, a1, fu, s2.eh, (sp s2).1⟩
  · obtain ⟨F, fu, acc, o, hfu, f⟩ := p
    have s2 := lc_sta s1 vs o hfu
    obtain ⟨F2, dx, e1, gr, rx⟩ := wd.yields i F H a1 fu x H' s2.eh (sp s2).1 hi y
    rw [drop_at e1] at f
    refine ⟨_, _, wv ++ tv, wr ++ tr, F2, a1, .val dx, _, (s2.grow gr).push (r := .val dx) rx, f, fun g3 σ3 H3 F3 a3 t3 s3 w3 => ⟨?_, ?_⟩⟩
    · rw [w3]
      apply List.ext_getElem?
      intro j
      by_cases hj : j ∈ vs
      · by_cases hl : j < σ.length
        · rw [wipe_in hj (by rw [wipe_length]; exact hl), wipe_in hj hl]
        · rw [List.getElem?_eq_none (by rw [wipe_length, wipe_length]; omega), List.getElem?_eq_none (by rw [wipe_length]; omega)]
      · rw [wipe_get hj, wipe_get hj]
    · refine ⟨_, g3, _, _, F3, a3, _, s3, t3, fun b g4 H4 F4 a4 t4 s4 => ?_⟩
      cases b with
      | true =>
        rw [if_pos rfl]
        refine ⟨_, g4, _, _, F4, a4, _, s4, t4.1 rfl, fun r g5 v H5 F5 a5 t5 s5 => ?_⟩
        cases r with
        | val d =>
          obtain ⟨ae, fD, fn, ⟨xs, hx, m⟩, o5⟩ := o.turn hfu Da1 s5.pop1
          exact ⟨xs, hx, by rw [m.len]; exact Nat.lt_of_lt_of_le t5.1 (by decide), F5, _, _, o5.grow Da1 hx m s5.top, fn, t5.2⟩
        | _ => exact t5.elim
      | false =>
        rw [if_neg Bool.false_ne_true]
        obtain ⟨ae, fD, fn, ⟨xs, hx, m⟩, o5⟩ := o.turn hfu Da1 s4
        exact ⟨F4, _, _, o5, fn, t4.2 rfl⟩
  · obtain ⟨F, fu, acc, o, hfu, f⟩ := p
    rw [List.drop_length] at f
    have s1' := s1.pop (sp s1).2
    by_cases hf : g1.fu = none
    · have o' := o
      rw [hf] at o'
      have s3 := s1'.after0 o'
      have e : ({ g1 with fu := fu } : Gs) = g1 := by
        rw [hfu hf, ← hf]
      refine k acc _ _ H F a1 f ?_ ?_
      · rw [e]; exact s3
      · rw [e]; exact NewL.of s1' rfl id o.rep
    · exact k acc _ _ H F a1 f (s1'.after1 hf o) (NewL.of (g' := { g1 with fu := fu }) s1' rfl (fun _ => hf) o.rep)
end
section
variable {X : Cx} {elt tg iter : Expr} {ifs : List Expr} {scope : Scope} {own : List (Str × Nat)} {pos spos : Pos} {tw : DW} {t : DG} {tt : DT} {te : DE}
theorem ts_yes : PTs X [] (upT X.K dYes) := ⟨fun pins s σ H Q I q => by
  obtain ⟨c, g, tv, tr, F, a, post, st, t, k⟩ := q
  exact pts_nil.run pins s σ H Q I (k true g H F a t st)⟩
theorem e_lc (hc : X.calm = true) (hN : X.N.Nodup) (hi : PI X tg iter (upI X.K tw)) (hb : BlkOk X.N X.env.scope scope own)
    (hg : ∀ s H C cl fp, PG (X.blk s H scope (compEnvC scope cl C X.env) fp) tg (upGw X.K (own.map (·.2)) t)) (ht : ∀ s H C cl fp, PTs (X.blk s H scope (compEnvC scope cl C X.env) fp) ifs (upT X.K tt))
    (he : ∀ s H C cl fp, PE (X.blk s H scope (compEnvC scope cl C X.env) fp) elt (up X.K te)) (hfs : ∀ x, foldedSetIterable iter X.env x = pure x := by intro _; rfl) :
    PE X (.ListComp elt [{ target := tg, iter := iter, ifs := ifs, is_async := 0 }] scope pos) (upL X.K (dLc (own.map (·.2)) tw t tt te)) := pe_to (pe_lc hc hN hi hb hg ht he hfs) lc_main
theorem s_setLc {i : Nat} {y : Str} {py : Pos} (hc : X.calm = true) (hN : X.N.Nodup) (hiy : X.N[i]? = some y) (hl : X.env.scope.names.lookup y = some .local)
    (hsw : swapsWith (.ListComp elt [{ target := tg, iter := iter, ifs := ifs, is_async := 0 }] scope pos) (some (.Name y py)) spos.line X.env = pure true)
    (hi : PI X tg iter (upI X.K tw)) (hb : BlkOk X.N X.env.scope scope own)
    (hg : ∀ s H C cl fp, PG (X.blk s H scope (compEnvC scope cl C X.env) fp) tg (upGw X.K (own.map (·.2)) t)) (ht : ∀ s H C cl fp, PTs (X.blk s H scope (compEnvC scope cl C X.env) fp) ifs (upT X.K tt))
    (he : ∀ s H C cl fp, PE (X.blk s H scope (compEnvC scope cl C X.env) fp) elt (up X.K te)) (hfs : ∀ x, foldedSetIterable iter X.env x = pure x := by intro _; rfl) :
    PS X (.Assign [.Name y py] (.ListComp elt [{ target := tg, iter := iter, ifs := ifs, is_async := 0 }] scope pos) spos) (upS X.K (dSetL i (dLc (own.map (·.2)) tw t tt te))) := ps_to (ps_setLc hc hN hiy hl hsw hi hb hg ht he hfs) fun D σ H q => by
  obtain ⟨c, g, tv, tr, F, a, d, s, hn, q, k⟩ := q
  exact lc_main σ H _ ⟨c, g, tv, tr, F, a, _, s, q, fun ds g1 v H1 F1 a1 t1 s1 n1 => k.nx _ _ H1 F1 a1 t1 (s1.setOwn n1 i)⟩
end
end Z

namespace Z
open L2 PySem PySem.Spec PyProof.Rows
open Evl (Ex ex_l ex_t ex_rd fresh_back)

/-! ### built-ins by name -/
abbrev CF := List Rv → (Da → Prop) → Prop
def dCB (f : CF) (ta : DA) : DE := fun g Q => ta g fun rs g1 => f rs fun z => Q (.val z) g1
def CallOk (K : Fg) (r : List V → Hp → VK → Prop) (f : CF) : Prop := ∀ (F H : Hp) (a : Addr) (fu : Option Nat) (vs : List V) (rs : List Rv) (post : Da → Prop) (Q : VK), Ex F H → Tm K F a fu vs rs → f rs post →
  (∀ z v H' F', post z → Gr F H F' H' → Rp K F' v z → Q v H') → r vs H Q
section
variable {X : Cx} {x : Str} {p pos : Pos} {e : Expr} {es : List Expr} {tr : DA} {id T : String} {r : List V → Hp → VK → Prop} {f : CF}
theorem cb_core (hf : CallOk X.K r f) : ∀ σ H Q, up X.K (dCB f tr) σ H Q → tCB r (upA X.K tr) σ H Q := fun σ H Q q => by
  obtain ⟨c, g, tv, tr, F, ad, post, s, t, k⟩ := q
  refine ⟨c, g, tv, tr, F, ad, _, s, t, fun rs g1 vs H1 F1 a1 t1 s1 hl => ?_⟩
  obtain ⟨m1, m2⟩ := s1.tmp.args hl
  exact hf F1 H1 a1 g1.fu vs rs _ _ s1.eh m1 t1 fun z v H' F' hz gr rz => k _ g1 v H' F' a1 hz (((s1.pop m2).grow gr).push (r := .val z) rz)
theorem e_callB (hc : CallR X (.builtin id) r) (hf : CallOk X.K r f) (hg : Gl X x) (hm : X.mg x = none) (hv : bootBuiltins x = some (.builtin id)) (ha : PA X (e :: es) (upA X.K tr)) (hn : x ≠ "__name__" := by decide) (hdb : (x == ("__debug__" : Str)) = false := by decide)
    (he : starEach (e :: es) X.env = (false, eval e X.env) :: starEach es X.env := by rfl) (hpl : (backTo pos (starEach es X.env)).any (·.1) = false := by rfl) : PE X (.Call (.Name x p) (e :: es) [] pos) (up X.K (dCB f tr)) :=
  pe_to (pe_callB hc hg hm hv ha hn hdb he hpl) (cb_core hf)
theorem e_callTy (hc : CallR X (.type T) r) (hf : CallOk X.K r f) (hg : Gl X x) (hm : X.mg x = none) (hv : bootBuiltins x = some (.type T)) (ha : PA X (e :: es) (upA X.K tr)) (hn : x ≠ "__name__" := by decide) (hdb : (x == ("__debug__" : Str)) = false := by decide)
    (he : starEach (e :: es) X.env = (false, eval e X.env) :: starEach es X.env := by rfl) (hpl : (backTo pos (starEach es X.env)).any (·.1) = false := by rfl) : PE X (.Call (.Name x p) (e :: es) [] pos) (up X.K (dCB f tr)) :=
  pe_to (pe_callTy hc hg hm hv ha hn hdb he hpl) (cb_core hf)
end
section
variable {K : Fg}
theorem Tm.i1 {F : Hp} {a : Addr} {fu : Option Nat} {vs : List V} {i : Int} (h : Tm K F a fu vs [.val (.int i)]) : vs = [.int i] := by
  cases h with
  | cons h t =>
    cases t
    have h' : Rp K F _ (.int i) := h
    cases h'
    rfl
theorem Tm.i2 {F : Hp} {a : Addr} {fu : Option Nat} {vs : List V} {i j : Int} (h : Tm K F a fu vs [.val (.int i), .val (.int j)]) : vs = [.int i, .int j] := by
  cases h with
  | cons h t =>
    cases t.i1
    have h' : Rp K F _ (.int i) := h
    cases h'
    rfl
theorem Tm.v1 {F : Hp} {a : Addr} {fu : Option Nat} {vs : List V} {d : Da} (h : Tm K F a fu vs [.val d]) : ∃ v, vs = [v] ∧ Rp K F v d := by
  cases h with
  | cons h t =>
    cases t
    exact ⟨_, rfl, h⟩
def cInt1 (o : Int → Int) : CF := fun rs post => match rs with
  | [.val (.int i)] => post (.int (o i))
  | _ => False
def cInt2 (o : Int → Int → Int) : CF := fun rs post => match rs with
  | [.val (.int i), .val (.int j)] => post (.int (o i j))
  | _ => False
theorem ok_int1 {o : Int → Int} : CallOk K (fun xs H Q => ∃ i, xs = [V.int i] ∧ Q (.int (o i)) H) (cInt1 o) := fun F H a fu vs rs post Q e t hf k => by
  unfold cInt1 at hf
  split at hf
  · exact ⟨_, t.i1, k _ _ H F hf (Gr.refl e) (.int _)⟩
  · exact hf.elim
theorem ok_int2 {o : Int → Int → Int} : CallOk K (fun xs H Q => ∃ i j, xs = [V.int i, V.int j] ∧ Q (.int (o i j)) H) (cInt2 o) := fun F H a fu vs rs post Q e t hf k => by
  unfold cInt2 at hf
  split at hf
  · exact ⟨_, _, t.i2, k _ _ H F hf (Gr.refl e) (.int _)⟩
  · exact hf.elim
/-- len -/
def cLen : CF := fun rs post => match rs with
  | [.val (.list ds)] => post (.int ds.length)
  | [.val (.tuple ds)] => post (.int ds.length)
  | [.val (.str x)] => x.length ≤ sizeLine ∧ post (.int x.length)
  | [.scr ns] => post (.int ns.length)
  | _ => False
theorem ok_len : CallOk K (fun xs H Q => ∃ x n, xs = [x] ∧ LenV K x H n ∧ Q (.int n) H) cLen := fun F H a fu vs rs post Q e t hf k => by
  unfold cLen at hf
  split at hf
  · rename_i ds
    obtain ⟨v, rfl, r⟩ := t.v1
    cases r with
    | lst sq m => exact ⟨_, _, rfl, .inl ⟨_, .inl (.inl (e _ _ sq)), m.len.symm⟩, k _ _ H F hf (Gr.refl e) (.int _)⟩
  · rename_i ds
    obtain ⟨v, rfl, r⟩ := t.v1
    cases r with
    | tup sq m => exact ⟨_, _, rfl, .inr ⟨_, ex_t e sq, m.len.symm⟩, k _ _ H F hf (Gr.refl e) (.int _)⟩
  · rename_i x
    obtain ⟨v, rfl, r⟩ := t.v1
    cases r
    exact ⟨_, _, rfl, ⟨hf.1, rfl⟩, k _ _ H F hf.2 (Gr.refl e) (.int _)⟩
  · rename_i ns
    cases t with
    | cons h t =>
      cases t
      obtain ⟨b, rfl, sq⟩ := h
      exact ⟨_, _, rfl, .inl ⟨_, ex_l e sq, (List.length_map ..).symm⟩, k _ _ H F hf (Gr.refl e) (.int _)⟩
  · exact hf.elim
/-- all of a list of bools -/
def boolsD : List Da → Option (List Bool)
  | [] => some []
  | .bool b :: r => (boolsD r).map (b :: ·)
  | _ :: _ => none
theorem bools_v {F : Hp} : ∀ {vs : List V} {ds : List Da} {bs : List Bool}, Rps K F vs ds → boolsD ds = some bs → vs = bs.map V.bl
  | _, _, _, .nil, h => by cases h; rfl
  | _, d :: ds, bs, .cons r t, h => by
    cases d with
    | bool b =>
      unfold boolsD at h
      cases q : boolsD ds with
      | none => rw [q] at h; cases h
      | some cs =>
        rw [q] at h
        cases h
        cases r
        rw [bools_v t q]
        rfl
    | _ => cases h
def cAll : CF := fun rs post => match rs with
  | [.val (.list ds)] => (match boolsD ds with | some bs => post (.bool (bs.all id)) | none => False)
  | _ => False
theorem ok_all : CallOk K (rAll K) cAll := fun F H a fu vs rs post Q e t hf k => by
  unfold cAll at hf
  split at hf
  · rename_i ds
    split at hf
    · rename_i bs q
      obtain ⟨v, rfl, r⟩ := t.v1
      cases r with
      | lst sq m =>
        rw [bools_v m q] at sq
        exact ⟨_, bs, rfl, .inl (.inl (e _ _ sq)), k _ _ H F hf (Gr.refl e) (.bl _)⟩
    · exact hf.elim
  · exact hf.elim
/-- tuple(..) -/
def cTuple : CF := fun rs post => match rs with
  | [.val (.list ds)] => post (.tuple ds)
  | [.val (.tuple ds)] => post (.tuple ds)
  | _ => False
theorem ok_tuple : CallOk K (fun xs H Q => ∃ p ys, xs = [V.ref p] ∧ ((SqL K H p ys ∧ ∀ l, H l = none → Q (.ref l) (upd H l (.tup ys))) ∨ (SqT K H p ys ∧ Q (.ref p) H))) cTuple := fun F H a fu vs rs post Q e t hf k => by
  unfold cTuple at hf
  split at hf
  · rename_i ds
    obtain ⟨v, rfl, r⟩ := t.v1
    cases r with
    | lst sq m =>
      rename_i pp xs
      refine ⟨_, _, rfl, .inl ⟨.inl (.inl (e _ _ sq)), fun l hl => ?_⟩⟩
      have gr := Gr.new (o := .tup xs) e hl
      exact k _ _ _ _ hf gr (.tup (.inl (.inl upd_same)) (m.up gr.f))
  · rename_i ds
    obtain ⟨v, rfl, r⟩ := t.v1
    cases r with
    | tup sq m => exact ⟨_, _, rfl, .inr ⟨ex_t e sq, k _ _ H F hf (Gr.refl e) (.tup sq m)⟩⟩
  · exact hf.elim
/-- int(..) of an int, a bool -/
def cInt : CF := fun rs post => match rs with
  | [.val (.int i)] => post (.int i)
  | [.val (.bool b)] => post (.int (if b then 1 else 0))
  | _ => False
theorem ok_int : CallOk K (fun xs H Q => (∃ i, xs = [V.int i] ∧ Q (.int i) H) ∨ ∃ k, xs = [V.bl k] ∧ Q (.int (if k then 1 else 0)) H) cInt := fun F H a fu vs rs post Q e t hf k => by
  unfold cInt at hf
  split at hf
  · exact .inl ⟨_, t.i1, k _ _ H F hf (Gr.refl e) (.int _)⟩
  · obtain ⟨v, rfl, r⟩ := t.v1
    cases r
    exact .inr ⟨_, rfl, k _ _ H F hf (Gr.refl e) (.int _)⟩
  · exact hf.elim
end
/-! isinstance against a built-in class -/
def tyD : Da → String
  | .none => "NoneType"
  | .bool _ => "bool"
  | .int _ => "int"
  | .str _ => "str"
  | .list _ => "list"
  | .tuple _ => "tuple"
  | .dict _ => "dict"
theorem ty_v {K : Fg} {F H : Hp} {v : V} {d : Da} (e : Ex F H) (r : Rp K F v d) : TyX K H v (.type (tyD d)) := by
  cases r with
  | non => exact .base .non
  | bl b => exact .base (.bl b)
  | int i => exact .base (.int i)
  | str x => exact .base (.str x)
  | lst sq m => exact .base (.lst (e _ _ sq))
  | tup sq m =>
    rcases sq with (h | ⟨o, h⟩) | ⟨o, its, n, h1, h2, _⟩
    · exact .base (.tup (e _ _ h))
    · exact .fTuple (e _ _ h)
    · exact .kTuple h1 h2
  | dct h _ =>
    rcases h with h | ⟨o, h⟩
    · exact .base (.dK (e _ _ h))
    · exact .fDict (e _ _ h)
def isTy (T : String) (d : Da) : Bool := match d with
  | .none => T == "NoneType"
  | .bool _ => T == "bool" || T == "int"
  | .int _ => T == "int"
  | .str _ => T == "str"
  | .list _ => T == "list"
  | .tuple _ => T == "tuple"
  | .dict _ => T == "dict"
def dIsi (T : String) (ta : DE) : DE := fun g Q => ta g fun r g1 => match r with
  | .val d => Q (.val (.bool (isTy T d))) g1
  | _ => False
section
variable {X : Cx} {x : Str} {p pos : Pos} {e c : Expr} {te : DE} {T : String}
theorem e_isi (hT : ∀ d : Da, kitB (tyD d) T = some (isTy T d)) (hg : Gl X "isinstance") (hm : X.mg "isinstance" = none) (he : PE X e (up X.K te)) (hc : PE X c (tC (.ty T)))
    (h1 : starEach [e, c] X.env = (false, eval e X.env) :: starEach [c] X.env := by rfl) (h2 : starEach [c] X.env = (false, eval c X.env) :: starEach [] X.env := by rfl) (hpl : (backTo pos (starEach [c] X.env)).any (·.1) = false := by rfl) :
    PE X (.Call (.Name "isinstance" p) [e, c] [] pos) (up X.K (dIsi T te)) := pe_to (pe_callB call_isi hg hm (by decide +kernel) (pa_cons he (pa_cons hc pa_nil h2) h1) (by decide) (by decide) h1 hpl) fun σ H Q q => by
  obtain ⟨c, g, tv, tr, F, ad, post, s, t, k⟩ := q
  refine ⟨c, g, tv, tr, F, ad, _, s, t, fun r g1 v H1 F1 a1 t1 s1 => ?_⟩
  cases r with
  | val d => exact ⟨_, _, _, _, isTy T d, rfl, .ty T, ty_v s1.eh s1.top, kit_ty (hT d), k _ g1 _ H1 F1 a1 t1 (s1.pop1.push (r := .val (.bool _)) (Rp.bl _))⟩
  | _ => exact t1.elim
end
theorem kit_int : ∀ d : Da, kitB (tyD d) "int" = some (isTy "int" d)
  | .none => (by decide +kernel : kitB "NoneType" "int" = some false)
  | .bool _ => (by decide +kernel : kitB "bool" "int" = some true)
  | .int _ => (by decide +kernel : kitB "int" "int" = some true)
  | .str _ => (by decide +kernel : kitB "str" "int" = some false)
  | .list _ => (by decide +kernel : kitB "list" "int" = some false)
  | .tuple _ => (by decide +kernel : kitB "tuple" "int" = some false)
  | .dict _ => (by decide +kernel : kitB "dict" "int" = some false)
theorem kit_bool : ∀ d : Da, kitB (tyD d) "bool" = some (isTy "bool" d)
  | .none => (by decide +kernel : kitB "NoneType" "bool" = some false)
  | .bool _ => (by decide +kernel : kitB "bool" "bool" = some true)
  | .int _ => (by decide +kernel : kitB "int" "bool" = some false)
  | .str _ => (by decide +kernel : kitB "str" "bool" = some false)
  | .list _ => (by decide +kernel : kitB "list" "bool" = some false)
  | .tuple _ => (by decide +kernel : kitB "tuple" "bool" = some false)
  | .dict _ => (by decide +kernel : kitB "dict" "bool" = some false)
theorem kit_str : ∀ d : Da, kitB (tyD d) "str" = some (isTy "str" d)
  | .none => (by decide +kernel : kitB "NoneType" "str" = some false)
  | .bool _ => (by decide +kernel : kitB "bool" "str" = some false)
  | .int _ => (by decide +kernel : kitB "int" "str" = some false)
  | .str _ => (by decide +kernel : kitB "str" "str" = some true)
  | .list _ => (by decide +kernel : kitB "list" "str" = some false)
  | .tuple _ => (by decide +kernel : kitB "tuple" "str" = some false)
  | .dict _ => (by decide +kernel : kitB "dict" "str" = some false)
theorem kit_tuple : ∀ d : Da, kitB (tyD d) "tuple" = some (isTy "tuple" d)
  | .none => (by decide +kernel : kitB "NoneType" "tuple" = some false)
  | .bool _ => (by decide +kernel : kitB "bool" "tuple" = some false)
  | .int _ => (by decide +kernel : kitB "int" "tuple" = some false)
  | .str _ => (by decide +kernel : kitB "str" "tuple" = some false)
  | .list _ => (by decide +kernel : kitB "list" "tuple" = some false)
  | .tuple _ => (by decide +kernel : kitB "tuple" "tuple" = some true)
  | .dict _ => (by decide +kernel : kitB "dict" "tuple" = some false)
theorem kit_list : ∀ d : Da, kitB (tyD d) "list" = some (isTy "list" d)
  | .none => (by decide +kernel : kitB "NoneType" "list" = some false)
  | .bool _ => (by decide +kernel : kitB "bool" "list" = some false)
  | .int _ => (by decide +kernel : kitB "int" "list" = some false)
  | .str _ => (by decide +kernel : kitB "str" "list" = some false)
  | .list _ => (by decide +kernel : kitB "list" "list" = some true)
  | .tuple _ => (by decide +kernel : kitB "tuple" "list" = some false)
  | .dict _ => (by decide +kernel : kitB "dict" "list" = some false)
theorem kit_dict : ∀ d : Da, kitB (tyD d) "dict" = some (isTy "dict" d)
  | .none => (by decide +kernel : kitB "NoneType" "dict" = some false)
  | .bool _ => (by decide +kernel : kitB "bool" "dict" = some false)
  | .int _ => (by decide +kernel : kitB "int" "dict" = some false)
  | .str _ => (by decide +kernel : kitB "str" "dict" = some false)
  | .list _ => (by decide +kernel : kitB "list" "dict" = some false)
  | .tuple _ => (by decide +kernel : kitB "tuple" "dict" = some false)
  | .dict _ => (by decide +kernel : kitB "dict" "dict" = some true)
/-! n.bit_length() -/
def dBits (te : DE) : DE := fun g Q => te g fun r g1 => match r with
  | .val (.int i) => Q (.val (.int (Builtin.Int.intBits i : Nat))) g1
  | _ => False
section
variable {X : Cx} {o : Expr} {te : DE} {apos pos : Pos}
theorem e_bits (ho : PE X o (up X.K te)) (hb : attributeBase o "bit_length" X.env (eval o X.env) = eval o X.env := by rfl) (hl : (apos.endLine == pos.line) = true := by rfl) : PE X (.Call (.Attribute o "bit_length" apos) [] [] pos) (up X.K (dBits te)) :=
  pe_to (pe_bits ho hb hl) fun σ H Q q => by
  obtain ⟨c, g, tv, tr, F, ad, post, s, t, k⟩ := q
  refine ⟨c, g, tv, tr, F, ad, _, s, t, fun r g1 v H1 F1 a1 t1 s1 => ?_⟩
  cases r with
  | val d =>
    cases d with
    | int i =>
      have hr : Rp X.K F1 v (.int i) := s1.top
      cases hr
      exact ⟨i, rfl, k _ g1 _ H1 F1 a1 t1 (s1.pop1.push (r := .val (.int _)) (Rp.int _))⟩
    | _ => exact t1.elim
  | _ => exact t1.elim
end
/-! zip of two lists or two tuples -/
section
variable {K : Fg}
theorem walkD_zipL {p q : Addr} {ds es : List Da} : WalkD K (Itz K p q) (zipD ds es) [.ref q, .ref p] [.val (.list es), .val (.list ds)] := by
  have get : ∀ {F H : Hp} {a : Addr} {fu : Option Nat}, Ex F H → Tm K F a fu [.ref q, .ref p] [.val (.list es), .val (.list ds)] → ∃ xs ys, SqL K H p xs ∧ SqL K H q ys ∧ Rps K F xs ds ∧ Rps K F ys es := fun {F H a fu} e t => by
    cases t with
    | cons h t =>
      obtain ⟨v, e1, h2⟩ := t.v1
      cases e1
      have h' : Rp K F (.ref q) (.list es) := h
      cases h' with
      | lst sq m =>
        cases h2 with
        | lst sq2 m2 => exact ⟨_, _, .inl (.inl (e _ _ sq2)), .inl (.inl (e _ _ sq)), m2, m⟩
  refine ⟨fun i F H a fu e t hi => ?_, fun F H a fu e t => ?_, fun i F H a fu x H' e t hi y => ?_⟩
  · obtain ⟨xs, ys, s1, s2, m1, m2⟩ := get e t
    rw [zipD_len] at hi
    obtain ⟨v, h1, _⟩ := m1.get (List.getElem?_eq_getElem (show i < ds.length by omega))
    obtain ⟨w, h2, _⟩ := m2.get (List.getElem?_eq_getElem (show i < es.length by omega))
    exact ⟨xs, ys, v, w, s1, s2, h1, h2⟩
  · obtain ⟨xs, ys, s1, s2, m1, m2⟩ := get e t
    refine ⟨xs, ys, s1, s2, ?_⟩
    rw [zipD_len, m1.len, m2.len]
    omega
  · obtain ⟨xs, ys, s1, s2, m1, m2⟩ := get e t
    obtain ⟨T, u, w, rfl, nT, rfl, h1, h2⟩ := y
    rw [zipD_len] at hi
    have g1 : ds[i]? = some ds[i] := List.getElem?_eq_getElem (by omega)
    have g2 : es[i]? = some es[i] := List.getElem?_eq_getElem (by omega)
    obtain ⟨u', e1, r1⟩ := m1.get g1
    obtain ⟨w', e2, r2⟩ := m2.get g2
    rw [h1 xs s1] at e1
    rw [h2 ys s2] at e2
    cases e1
    cases e2
    have gr := Gr.new (o := .tup [u, w]) e nT
    exact ⟨_, _, zipD_get ds es i _ _ g1 g2, gr, .tup (.inl (.inl upd_same)) (.cons (r1.up gr.f) (.cons (r2.up gr.f) .nil))⟩
theorem walkD_zipT {p q : Addr} {ds es : List Da} : WalkD K (RZ.ItzT K p q) (zipD ds es) [.ref q, .ref p] [.val (.tuple es), .val (.tuple ds)] := by
  have get : ∀ {F H : Hp} {a : Addr} {fu : Option Nat}, Ex F H → Tm K F a fu [.ref q, .ref p] [.val (.tuple es), .val (.tuple ds)] → ∃ xs ys, SqT K H p xs ∧ SqT K H q ys ∧ Rps K F xs ds ∧ Rps K F ys es := fun {F H a fu} e t => by
    cases t with
    | cons h t =>
      obtain ⟨v, e1, h2⟩ := t.v1
      cases e1
      have h' : Rp K F (.ref q) (.tuple es) := h
      cases h' with
      | tup sq m =>
        cases h2 with
        | tup sq2 m2 => exact ⟨_, _, ex_t e sq2, ex_t e sq, m2, m⟩
  refine ⟨fun i F H a fu e t hi => ?_, fun F H a fu e t => ?_, fun i F H a fu x H' e t hi y => ?_⟩
  · obtain ⟨xs, ys, s1, s2, m1, m2⟩ := get e t
    rw [zipD_len] at hi
    obtain ⟨v, h1, _⟩ := m1.get (List.getElem?_eq_getElem (show i < ds.length by omega))
    obtain ⟨w, h2, _⟩ := m2.get (List.getElem?_eq_getElem (show i < es.length by omega))
    exact ⟨xs, ys, v, w, s1, s2, h1, h2⟩
  · obtain ⟨xs, ys, s1, s2, m1, m2⟩ := get e t
    refine ⟨xs, ys, s1, s2, ?_⟩
    rw [zipD_len, m1.len, m2.len]
    omega
  · obtain ⟨xs, ys, s1, s2, m1, m2⟩ := get e t
    obtain ⟨T, u, w, rfl, nT, rfl, h1, h2⟩ := y
    rw [zipD_len] at hi
    have g1 : ds[i]? = some ds[i] := List.getElem?_eq_getElem (by omega)
    have g2 : es[i]? = some es[i] := List.getElem?_eq_getElem (by omega)
    obtain ⟨u', e1, r1⟩ := m1.get g1
    obtain ⟨w', e2, r2⟩ := m2.get g2
    rw [h1 xs s1] at e1
    rw [h2 ys s2] at e2
    cases e1
    cases e2
    have gr := Gr.new (o := .tup [u, w]) e nT
    exact ⟨_, _, zipD_get ds es i _ _ g1 g2, gr, .tup (.inl (.inl upd_same)) (.cons (r1.up gr.f) (.cons (r2.up gr.f) .nil))⟩
end
section
variable {X : Cx} {a b : Expr} {ta tb : DE} {p pos tpos : Pos} {elts : List Expr} {kk : Nat}
theorem i_zip (hg : Gl X "zip") (hm : X.mg "zip" = none) (ha : PE X a (up X.K ta)) (hb : PE X b (up X.K tb)) (hs : starEach [a, b] X.env = (false, eval a X.env) :: starEach [b] X.env := by rfl) (hs2 : starEach [b] X.env = (false, eval b X.env) :: starEach [] X.env := by rfl)
    (hpl : (backTo pos (starEach [b] X.env)).any (·.1) = false := by rfl) : PI X (.Tuple elts kk tpos) (.Call (.Name "zip" p) [a, b] [] pos) (upI X.K (dZip ta tb)) := pi_to (RZ.pi_zipA hg hm (pa_cons ha (pa_cons hb pa_nil hs2) hs) hs hpl) fun σ H R q => by
  obtain ⟨c, g, tv, tr, F, a, post, s, t, k⟩ := q
  refine ⟨c, g, tv, tr, F, a, _, s, t, fun r g1 v H1 F1 a1 t1 s1 => ?_⟩
  refine ⟨c, g1, _, _, F1, a1, _, s1, t1, fun r2 g2 v2 H2 F2 a2 t2 s2 => ?_⟩
  split at t2
  · rename_i xs ys
    have hr : Rp X.K F2 v (.tuple xs) := s2.pop1.top
    have hr2 : Rp X.K F2 v2 (.tuple ys) := s2.top
    cases hr with
    | tup q1 m1 =>
      cases hr2 with
      | tup q2 m2 => exact ⟨_, _, _, _, rfl, .inr ⟨ex_t s2.eh q1, ex_t s2.eh q2, k _ g2 H2 F2 a2 _ [_, _] [_, _] t2 s2 rfl rfl walkD_zipT⟩⟩
  · rename_i xs ys
    have hr : Rp X.K F2 v (.list xs) := s2.pop1.top
    have hr2 : Rp X.K F2 v2 (.list ys) := s2.top
    cases hr with
    | lst q1 m1 =>
      cases hr2 with
      | lst q2 m2 => exact ⟨_, _, _, _, rfl, .inl ⟨.inl (.inl (s2.eh _ _ q1)), .inl (.inl (s2.eh _ _ q2)), k _ g2 H2 F2 a2 _ [_, _] [_, _] t2 s2 rfl rfl walkD_zipL⟩⟩
  · exact t2.elim
end
/-! ### a def by its body, told by data -/
def svOf : Rv → Option Sv := fun r => some (rsv r)
section
variable {P : Program} {w : World} {K : Fg} {mg : Str → Option Value} {base : Heap} {CX : CXT}
def ent (N : List Str) (rs : List Rv) (fu : Option Nat) : Gs := ⟨rs.map svOf ++ List.replicate (N.length - rs.length) none, fu, fu.isNone⟩
theorem Tm.len : ∀ {F : Hp} {a : Addr} {fu : Option Nat} {vs : List V} {rs : List Rv}, Tm K F a fu vs rs → vs.length = rs.length
  | _, _, _, _, _, .nil => rfl
  | _, _, _, _, _, .cons _ t => congrArg (· + 1) t.len
theorem Tm.get : ∀ {F : Hp} {a : Addr} {fu : Option Nat} {vs : List V} {rs : List Rv} {i : Nat} {r : Rv}, Tm K F a fu vs rs → rs[i]? = some r → ∃ v, vs[i]? = some v ∧ RvOk K F a fu v r
  | _, _, _, _, _, _, _, .nil, e => by simp at e
  | _, _, _, _, _, 0, _, .cons r _, e => by simp at e; subst e; exact ⟨_, rfl, r⟩
  | _, _, _, _, _, i + 1, r, .cons _ t, e => by
    obtain ⟨u, h1, h2⟩ := Tm.get (i := i) (r := r) t (by simpa using e)
    exact ⟨u, by simpa using h1, h2⟩
theorem sta_ent {N : List Str} {F H : Hp} {a : Addr} {fu : Option Nat} {vs : List V} {rs : List Rv} (e : Ex F H) (t : Tm K F a fu vs rs) (hs : ∀ n, fu = some n → F a = none ∧ SrcAt H a n) :
    Sta K ⟨F, H, if fu = none then none else some a⟩ (ent N rs fu) (L2.start N vs) H [] [] F a := by
  have atS : ∀ (i : Nat) s, (ent N rs fu).sl[i]? = some (some s) → ∃ r, rs[i]? = some r ∧ s = rsv r := fun i s h => by
    have h' : (rs.map svOf ++ List.replicate (N.length - rs.length) none)[i]? = some (some s) := h
    by_cases hi : i < rs.length
    · rw [List.getElem?_append_left (by simpa using hi), List.getElem?_map, List.getElem?_eq_getElem hi] at h'
      cases h'
      exact ⟨_, List.getElem?_eq_getElem hi, rfl⟩
    · rw [List.getElem?_append_right (by simpa using hi), List.getElem?_replicate] at h'
      split at h' <;> cases h'
  have noO : ∀ (i : Nat) ds, (ent N rs fu).sl[i]? = some (some (.own ds)) → False := fun i ds h => by
    obtain ⟨r, _, e⟩ := atS i _ h
    cases r <;> cases e
  refine ⟨Ex.refl F, e, fun b o _ h => h, fun b h => .inl h, fun b h => ?_, fun h => ?_, fun n h => ?_, .nil, ?_, fun i s h => ?_, fun i j ds es _ h => (noO i ds h).elim⟩
  · by_cases hf : fu = none
    · simp [hf] at h
    · simp [hf] at h
      exact ⟨h, hf⟩
  · have h' : fu = none := Option.isNone_iff_eq_none.mp h
    exact if_pos h'
  · have h' : fu = some n := h
    exact ⟨(hs n h').1, .inl (if_neg (ne_none h')), (hs n h').2⟩
  · unfold L2.start ent
    rw [List.length_append, List.length_append, List.length_map, List.length_map, t.len, List.length_replicate, List.length_replicate]
  · obtain ⟨r, h1, rfl⟩ := atS i s h
    obtain ⟨v, h2, h3⟩ := t.get h1
    have hi : i < vs.length := (List.getElem?_eq_some_iff.mp h2).1
    refine ⟨v, ?_, ?_⟩
    · unfold L2.start
      rw [List.getElem?_append_left (by simpa using hi), List.getElem?_map, h2]
      rfl
    · cases r <;> exact h3
theorem fn_data {x qual : Str} {st : Stmt} {f : Addr} {fd : FuncData} {N ps : List Str} {k : Nat} {fs : FSp} (Fu : Fun K x qual st f fd) (S : FnScope N ps (defScope st)) (tb : DS)
    (hd : ∀ (cdv : Value) (A : Around) (outer : List Env) (s : Shared) (H : Hp) (E : XK), Room k (A.deeper (envOfC qual (defScope st) s.heap.objs.size f cdv)) → (A.deeper (envOfC qual (defScope st) s.heap.objs.size f cdv)).guards = some [] →
      PSs (cxOf CX P w K mg base N qual (defScope st) f cdv A outer s H E).nox (defBody st) (upS K tb))
    (hb : ∀ rs fu post, rs.length = ps.length → fs rs fu post → tb ⟨fun g => post (.val .none) g.fu, fun r g => post r g.fu, fun _ => False, fun _ => False⟩ (ent N rs fu)) : Fn P w K mg base CX (k + 1) f fd ps (lift K ps.length fs) := by
  refine fn_by Fu S lift_len fun cdv A outer s H vs Q E hr hg h => ⟨_, (hd cdv A outer s H E hr hg).nox, ?_⟩
  obtain ⟨F, a, rs, fu, post, e, t, hl, hs, hf, hq⟩ := h
  have st0 := sta_ent (N := N) e t hs
  have fin : ∀ {g : Gs} {σ : L2.St} {H' F' : Hp} {tv : List V} {tr : List Rv} {a' : Addr} {v : V} {r : Rr}, Sta K ⟨F, H, if fu = none then none else some a⟩ g σ H' tv tr F' a' → RrOk K F' H H' v r → Out K F H a fu g.fu F' H' v r := fun {g σ H' F' tv tr a' v r} s hr => by
    refine ⟨s.e0, s.eh, fun b o hb h => s.keep b o (fun z => ?_) h, s.new, fun hf => ?_, hr⟩
    · by_cases hf : fu = none
      · simp [hf] at z
      · simp [hf] at z
        exact hb hf z.symm
    · obtain ⟨e1, e2⟩ := s.ex a (if_neg hf)
      subst e1
      cases q : g.fu with
      | none => exact absurd q e2
      | some n => exact ⟨n, rfl, (s.src n q).1, (s.src n q).2.2⟩
  refine ⟨_, _, [], [], F, a, _, st0, rfl, hb rs fu post (by rw [← t.len]; exact hl) hf, ⟨fun g σ H' F' a' h s => ?_, fun g σ H' F' a' h s => h, fun g σ H' F' a' h s => h, fun x g σ v H' F' a' h s => ?_, fun ds g σ v H' F' a' h s n => ?_⟩⟩
  · exact hq _ _ _ H' F' h (fin s (r := .val .none) Rp.non)
  · exact hq _ _ _ H' F' h (fin s (r := .val x) s.top)
  · obtain ⟨o, xs, q1, q2, q3, q4, q5, _⟩ := n.ex
    exact hq _ _ _ H' F' h (fin s (r := .own ds) ⟨o, xs, q1, q3, q2, q4, q5⟩)
end
end Z

namespace Z
open L2 PySem PySem.Spec PyProof.Rows
open Evl (Ex ex_l ex_t ex_rd fresh_back)

/-! ### the end: the law's own call -/
section
variable {P : Program} {w : World} {K : Fg} {mg mb : Str → Option Value} {k : Nat} {fa a : Addr} {fd : FuncData} {x : Str} {s₁ : Shared} {vs : List Value} {ns : List Int} {fs : FSp}
theorem end_at {H : Hp} (KX : K.In s₁.heap) (hns : s₁.heap.Ns mainGlobals mg) (hb : s₁.heap.Ns builtinsNs mb) (hbb : ∀ x : Str, x ≠ "__name__" → mb x = bootBuiltins x) (hlim : s₁.heap.NoLimit) (hg : s₁.gens = #[])
    (ha : s₁.heap.get? a = some { cls := .type "list", data := .seq vs.toArray }) (hr : Room k callerA)
    (Fu : ∀ base : Heap, K.In base → base.Ns mainGlobals mg → Fn P w K mg base CX0 k fa fd [x] (lift K 1 fs)) (hbind : ∀ (s : Shared) (u : Value), BindsTo s fd ⟨[u], []⟩ [(x, u)])
    (hsp : fs [.scr ns] none fun r _ => r = .val (.bool true)) (hO : Only H) (hS : SqL K H a (ns.map V.int)) (hok : HOk P w H s₁.heap) (hA : ∀ b, H b ≠ none → b = a) (hK : H a ≠ none → K.lookup a = none) :
    codeAny (model P w) callerA (.call (.ref fa) ⟨[.ref a], []⟩) (fun r s' => r = .ok (.ret (.bool true)) ∧ OldK s₁.heap s'.heap ∧ s'.os = s₁.os ∧ AllBare s'.gens) s₁ := by
  have noD : ∀ {b : Addr} {o : Obj}, s₁.heap.get? b = some o → (∃ es ep, o.data = .dict es ep) → H b = none := fun {b o} e ⟨es, ep, d⟩ => by
    cases q : H b with
    | none => rfl
    | some u =>
      cases hA b (ne_none q)
      rw [ha] at e
      cases e
      cases (show Data.seq vs.toArray _ = Data.dict es ep from d)
  have nsK : ∀ {b : Addr} {m : Str → Option Value}, s₁.heap.Ns b m → (hidT s₁.heap H).Ns b m := fun {b m} z => by
    obtain ⟨o, es, ep, e, d, r⟩ := z
    exact ⟨o, es, ep, hidT_get e (noD e ⟨es, ep, d⟩), d, r⟩
  have hKb : K.In (hidT s₁.heap H) := fun b o e => hidT_get (KX b o e) (by
    cases q : H b with
    | none => rfl
    | some u =>
      have hb := hA b (ne_none q)
      subst hb
      rw [hK (ne_none q)] at e
      cases e)
  obtain ⟨mc, h1, h2⟩ := hlim
  have e0 : Env0 P w K mg (hidT s₁.heap H) callerA [] s₁ H :=
    { frames := rfl, mod := ⟨hKb, nsK hns, ⟨mb, nsK hb, hbb⟩, ⟨mc, nsK h1, h2⟩⟩, bs := fun b o e => of_hidT e, bsz := Nat.le_of_eq (hidT_size _ _), funs := trivial
      frf := fun b hb => absurd (show b ∈ ([] : List Addr) from hb) (by simp), hok := hok, bare := .of_eq hg }
  have pr : lift K 1 fs [.ref a] H (fun v _ => v = .bl true) fun _ _ _ => False :=
    ⟨H, a, [.scr ns], none, _, Ex.refl H, .cons ⟨a, rfl, hS⟩ .nil, rfl, fun n z => (by cases z), hsp, fun r fu' v H' F' e o => by
      subst e
      have q : Rp K F' v (.bool true) := o.rep
      cases q
      rfl⟩
  refine codeAny_mono ((Fu _ hKb (nsK hns)).run callerA [] s₁ H ⟨[.ref a], []⟩ [.ref a] [.ref a] _ _ hr rfl e0 (hbind s₁ (.ref a)) (.cons rfl .nil) pr) fun r s' h => ?_
  match r, h with
  | .error e, h => exact False.elim h
  | .ok .next, h => exact False.elim h
  | .ok .brk, h => exact False.elim h
  | .ok .cont, h => exact False.elim h
  | .ok (.ret u), ⟨v, H', os, bare, un, hok', rv, q⟩ =>
    have q' : v = .bl true := q
    subst q'
    have ru : u = Value.bool true := rv
    subst ru
    refine ⟨rfl, OldK.of_keep fun b o e => ?_, os, bare⟩
    rcases hO b with z | ⟨ob, xs, z⟩
    · exact un.keep b o e z (fun z => absurd (show b ∈ ([] : List Addr) from z) (by simp)) (by simp)
    · obtain ⟨e1, _⟩ := hok b _ z
      obtain ⟨e2, _⟩ := hok' b _ (un.frzs b ob _ z)
      rw [e] at e1
      cases e1
      exact e2
theorem end_call (KX : K.In s₁.heap) (hns : s₁.heap.Ns mainGlobals mg) (hb : s₁.heap.Ns builtinsNs mb) (hbb : ∀ x : Str, x ≠ "__name__" → mb x = bootBuiltins x) (hlim : s₁.heap.NoLimit) (hg : s₁.gens = #[])
    (ha : s₁.heap.get? a = some { cls := .type "list", data := .seq vs.toArray }) (hi : IntsAre vs ns) (hl : ns.length ≤ sizeLine) (hr : Room k callerA)
    (Fu : ∀ base : Heap, K.In base → base.Ns mainGlobals mg → Fn P w K mg base CX0 k fa fd [x] (lift K 1 fs)) (hbind : ∀ (s : Shared) (u : Value), BindsTo s fd ⟨[u], []⟩ [(x, u)])
    (hsp : fs [.scr ns] none fun r _ => r = .val (.bool true)) :
    codeAny (model P w) callerA (.call (.ref fa) ⟨[.ref a], []⟩) (fun r s' => r = .ok (.ret (.bool true)) ∧ OldK s₁.heap s'.heap ∧ s'.os = s₁.os ∧ AllBare s'.gens) s₁ := by
  have rv := vals_ints hi
  cases hk : K.lookup a with
  | some o =>
    have e := KX a o hk
    rw [ha] at e
    cases e
    have sz : vs.toArray.size ≤ sizeLine := by rw [List.size_toArray, hi.length]; exact hl
    exact end_at (H := fun _ => none) KX hns hb hbb hlim hg ha hr Fu hbind hsp (fun _ => .inl rfl) (.inr ⟨_, vs.toArray, _, hk, rfl, rfl, rfl, sz, by simpa using rv⟩) (fun b u z => by cases (show (none : Option HO) = some u from z)) (fun b z => absurd rfl z) fun z => absurd rfl z
  | none =>
    let ob : Obj := { cls := .type "list", data := .seq vs.toArray }
    have at_a : ∀ {b : Addr} {u : HO}, (if b = a then some (HO.frz ob (.lst (ns.map V.int))) else none) = some u → b = a ∧ u = .frz ob (.lst (ns.map V.int)) := fun {b u} z => by
      by_cases h : b = a
      · rw [if_pos h] at z
        exact ⟨h, (Option.some.inj z).symm⟩
      · rw [if_neg h] at z
        cases z
    refine end_at (H := fun b => if b = a then some (.frz ob (.lst (ns.map V.int))) else none) KX hns hb hbb hlim hg ha hr Fu hbind hsp (fun b => ?_) (.inl (.inr ⟨ob, if_pos rfl⟩)) (fun b u z => ?_) (fun b z => ?_) fun _ => hk
    · by_cases h : b = a
      · exact .inr ⟨ob, _, if_pos h⟩
      · exact .inl (if_neg h)
    · obtain ⟨rfl, rfl⟩ := at_a z
      exact ⟨ha, by rw [List.length_map]; exact hl, vs, _, rv, ha⟩
    · exact Classical.byContradiction fun h => z (if_neg h)
end
theorem end_of {l : PySem.W.OpenLaw} {n k : Nat} {q : Program} {loose : List Str} {XP : (Str → Option Value) → Heap → Prop} {YP : World → Heap → Prop} {d : DefRec} {K : Params → PySem.W.Frag} {fs : FSp} {x : Str}
    (hn : l.most = some n) (hn2 : n ≤ sizeLine) (hdf : d.params.defaults = []) (hr : Room k callerA) (hY : ∀ (w : World) (h : Heap), YP w h → (K w.params).In h)
    (Fu : ∀ (w : World) (mg : Str → Option Value) (fa : Addr) (h : Heap), (K w.params).In h → h.Ns mainGlobals mg → mg d.name = some (.ref fa) →
      ∃ fd : FuncData, (∀ (s : Shared) (u : Value), BindsTo s fd ⟨[u], []⟩ [(x, u)]) ∧ ∀ base : Heap, (K w.params).In base → base.Ns mainGlobals mg → Fn l.prog w (K w.params) mg base CX0 k fa fd [x] (lift (K w.params) 1 fs))
    (hsp : ∀ ns : List Int, ns.length ≤ n → fs [.scr ns] none fun r _ => r = .val (.bool true)) : PySem.W.WalkO q loose XP YP l.row.toRowW d [] (fun f vs => PySem.call f vs) := by
  refine Att.attach_call hn hdf fun w s₀ s₁ mg mb fa o pm cd doc a vs ns G Y ho hd hcd hmg hobj hints hlen hg => ?_
  obtain ⟨fd, hb, hF⟩ := Fu w mg fa _ (hY w _ Y) G.T.g hmg
  exact end_call (hY w _ Y) G.T.g G.T.b G.T.builtins G.T.nolimit hg hobj hints (Nat.le_trans hlen hn2) hr hF hb (hsp ns hlen)
end Z

namespace Z
open L2 PySem PySem.Spec PyProof.Rows
open Evl (Ex ex_l ex_t ex_rd fresh_back)

/-! ### sources of draws -/
def SrcD (ds : List Da) (n : Nat) : Prop := ∃ x y z : Int, ds = [.int x, .int y, .int z] ∧ 0 ≤ x ∧ x < 2 ^ 1000 ∧ 0 ≤ y ∧ y < modS ∧ 0 ≤ z ∧ z + n ≤ 2 ^ 40
def noSrc : Option Sv → Option Sv
  | some .src => none
  | x => x
/-- x = a new source, good for n draws -/
def dSetS (n i : Nat) (tl : DL) : DS := fun d g => g.ow = true ∧ tl g fun ds g1 => g1.ow = true ∧ SrcD ds n ∧ d.nx ⟨(g1.sl.map noSrc).set i (some .src), some n, true⟩
/-- f(a new source, constants ..) -/
def dCallS (np n : Nat) (fs : FSp) (tl : DL) (rs : List Rv) : DE := fun g Q => tl g fun ds g1 => SrcD ds n ∧ rs.length + 1 = np ∧ fs (.src :: rs) (some n) fun r _ => Q (rrv r) g1
section
variable {K : Fg} {c : Con} {g : Gs} {σ : L2.St} {H F H' F' : Hp} {tv : List V} {tr : List Rv} {a : Addr}
theorem Rps.three {xs : List V} {x y z : Int} (h : Rps K F xs [.int x, .int y, .int z]) : xs = [.int x, .int y, .int z] := by
  cases h with
  | cons h1 h =>
    cases h with
    | cons h2 h =>
      cases h with
      | cons h3 h =>
        cases h
        cases h1
        cases h2
        cases h3
        rfl
theorem SrcD.at {ds : List Da} {n : Nat} (h : SrcD ds n) {o : Addr} {xs : List V} (hH : H o = some (.lst xs)) (m : Rps K F xs ds) : SrcAt H o n := by
  obtain ⟨x, y, z, rfl, h⟩ := h
  rw [m.three] at hH
  exact ⟨x, y, z, hH, h⟩
theorem noSrc_some {sl : List (Option Sv)} {i : Nat} {s : Sv} (h : (sl.map noSrc)[i]? = some (some s)) : sl[i]? = some (some s) ∧ s ≠ .src := by
  rw [List.getElem?_map] at h
  cases q : sl[i]? with
  | none => rw [q] at h; cases h
  | some x =>
    rw [q] at h
    have h3 : noSrc x = some s := Option.some.inj h
    cases x with
    | none => cases h3
    | some y => cases y <;> first | (cases h3; exact ⟨rfl, fun z => nomatch z⟩) | cases h3
theorem Sta.setSrc (s : Sta K c g σ H tv tr F a) {v : V} {ds : List Da} {n : Nat} (h : NewL K c g σ H F a v ds) (hs : SrcD ds n) (how : g.ow = true) (hn : hasSrc tr = false) (i : Nat) :
    ∃ o, Sta K c ⟨(g.sl.map noSrc).set i (some .src), some n, true⟩ (σ.set i (some v)) H tv tr F o := by
  obtain ⟨o, xs, rfl, q2, q3, q4, q5, q6, q7⟩ := h.ex
  have e0 := s.ow how
  refine ⟨o, s.e0, s.eh, s.keep, s.new, fun b z => by (rw [e0] at z; cases z), fun _ => e0, fun m hm => ?_, ?_, ?_, fun j sv hj => ?_, fun j k es fs hjk hj hk => ?_⟩
  · cases hm
    exact ⟨q2, .inr ⟨e0, q3⟩, hs.at q4 q5⟩
  · have t0 : Tm K F o none tv tr := by
      have t1 := s.tmp.noSrc hn
      clear s h
      induction t1 with
      | nil => exact .nil
      | @cons v vs r rs h t ih =>
        cases r with
        | val d => exact .cons (show Rp K F v d from h) (ih hn)
        | scr ns => exact .cons h (ih hn)
        | ob k => exact .cons h (ih hn)
        | src => cases hn
    exact Tm.refu (fu' := some n) (fun z => nomatch z) t0
  · rw [List.length_set, List.length_set, List.length_map]; exact s.len
  · rcases set_some hj with ⟨rfl, hl, e⟩ | ⟨ne, e⟩
    · cases e
      rw [List.length_map] at hl
      exact ⟨_, List.getElem?_set_self (by rw [s.len]; exact hl), rfl, fun z => nomatch z⟩
    · obtain ⟨e1, e2⟩ := noSrc_some e
      obtain ⟨w, h1, h2⟩ := s.slot j sv e1
      refine ⟨w, by rw [List.getElem?_set_ne (Ne.symm ne)]; exact h1, ?_⟩
      cases sv with
      | val d => exact h2
      | src => exact absurd rfl e2
      | scr ns => exact h2
      | ob k => exact h2
      | own es =>
        obtain ⟨p, ys, r1, r2, r3, r4, r5, r6⟩ := h2
        exact ⟨p, ys, r1, r2, r3, r4, r5, fun _ z => q7 j es e1 (by rw [h1, r1, z])⟩
  · have no : ∀ k fs, ((g.sl.map noSrc).set i (some Sv.src))[k]? = some (some (Sv.own fs)) → k ≠ i ∧ g.sl[k]? = some (some (Sv.own fs)) := fun k fs h => by
      rcases set_some h with ⟨_, _, e⟩ | ⟨z, e⟩
      · cases e
      · exact ⟨z, (noSrc_some e).1⟩
    obtain ⟨n1, e1⟩ := no j es hj
    obtain ⟨n2, e2⟩ := no k fs hk
    rw [List.getElem?_set_ne (Ne.symm n1), List.getElem?_set_ne (Ne.symm n2)]
    exact s.dis j k es fs hjk e1 e2
/-- behind a call that had a source of its own -/
theorem Sta.after2 (s : Sta K c g σ H tv tr F a) {v u : V} {r : Rr} {ds : List Da} {n : Nat} {fu' : Option Nat} {o : Addr} (h : NewL K c g σ H F a (.ref o) ds) (ou : Out K F H o (some n) fu' F' H' u r) : Sta K c g σ H' tv tr F' a := by
  obtain ⟨o', xs, eo, q2, q3, q4, q5, q6, q7⟩ := h.ex
  cases eo
  have keepN : ∀ b x, b ≠ o → H b = some x → H' b = some x := fun b x hb e => ou.keep b x (fun _ => hb) e
  have oldF : ∀ b, H b ≠ none → F b = none → F' b = none := fun b h1 h2 => by
    cases q : F' b with
    | none => rfl
    | some u =>
      rcases ou.new b (ne_none q) with z | z
      · exact absurd h2 z
      · exact absurd z h1
  refine ⟨s.e0.trans ou.f, ou.s, fun b x z1 z2 => keepN b x (fun z => by rw [z, q3] at z2; cases z2) (s.keep b x z1 z2), fun b q => ?_, s.ex, s.ow, fun m hm => ?_, s.tmp.up ou.f, s.len, fun j sv hj => ?_, s.dis⟩
  · rcases ou.new b q with z | z
    · exact s.new b z
    · exact .inr (s.fresh z)
  · obtain ⟨z1, z2, x, y, z, e, z3⟩ := s.src m hm
    exact ⟨oldF a (ne_none e) z1, z2, x, y, z, keepN a _ (fun w => q6 (ne_none hm) w.symm) e, z3⟩
  · obtain ⟨w, h1, h2⟩ := s.slot j sv hj
    refine ⟨w, h1, ?_⟩
    cases sv with
    | val d => exact Rp.up h2 ou.f
    | src => exact h2
    | scr ns => obtain ⟨b, z1, z2⟩ := h2; exact ⟨b, z1, ex_l ou.f z2⟩
    | ob k => exact ObOk.up ou.f h2
    | own es =>
      obtain ⟨p, ys, r1, r2, r3, r4, r5, r6⟩ := h2
      exact ⟨p, ys, r1, oldF p (ne_none r4) r2, r3, keepN p _ (fun z => q7 j es hj (by rw [h1, r1, z])) r4, r5.up ou.f, r6⟩
end
section
variable {X : Cx} {e : Expr} {tl : DL} {pos : Pos}
theorem s_setS (n : Nat) {i : Nat} {x : Str} {pos' : Pos} (hN : X.N.Nodup) (hi : X.N[i]? = some x) (hx : L2.Loc X.env.scope x) (he : PE X e (upL X.K tl)) (h1 : swapsWith e (some (.Name x pos')) pos.line X.env = pure false := by rfl)
    (hf : X.fn x = true ∨ X.env.scope.names.lookup x = some .local := by first | exact .inl rfl | exact .inr rfl) : PS X (.Assign [.Name x pos'] e pos) (upS X.K (dSetS n i tl)) := ps_to (ps_set hN hi hx he h1 hf) fun D σ H q => by
  obtain ⟨c, g, tv, tr, F, a, d, s, hn, t, k⟩ := q
  refine ⟨c, g, tv, tr, F, a, _, s, t.2, fun ds g1 v H1 F1 a1 t1 s1 n1 => ?_⟩
  obtain ⟨o, s2⟩ := s1.setSrc n1 t1.2.1 t1.1 hn i
  exact k.nx _ _ H1 F1 o t1.2.2 s2
variable {CX : CXT} {k : Nat} {f : Addr} {fd : FuncData} {ps : List Str} {fs : FSp} {x : Str} {p : Pos} {es : List Expr} {np : Nat} {E : XK} {vs : List V} {rs : List Rv}
theorem e_callS (n : Nat) (G : Fn X.prog X.w X.K X.mg X.base CX k f fd ps (lift X.K np fs)) (hr : Room k X.A) (hgd : X.A.guards = some []) (hg : Gl X x) (hm : X.mg x = some (.ref f)) (hk : PySem.W.keepIn X.K (.ref f) = true) (hb : Binds X.K fd ps []) (hx : Passes CX X E)
    (he : PE X e (upL X.K tl)) (hes : PA X es fun _ H Q => Q vs H) (hvs : ∀ F a fu, Tm X.K F a fu vs rs) (hdb : (x == ("__debug__" : Str)) = false := by decide) (hs : starEach (e :: es) X.env = (false, eval e X.env) :: starEach es X.env := by rfl)
    (hpl : (backTo pos (starEach es X.env)).any (·.1) = false := by rfl) : PE X (.Call (.Name x p) (e :: es) [] pos) (up X.K (dCallS np n fs tl rs)) := pe_to (pe_fn G hr hgd hg hm hk hb hx (pa_cons he hes hs) hdb hs hpl) fun σ H Q q => by
  obtain ⟨c, g, tv, tr, F, a, post, s, t, k⟩ := q
  refine ⟨c, g, tv, tr, F, a, _, s, t, fun ds g1 v H1 F1 a1 t1 s1 n1 => ?_⟩
  obtain ⟨o, xs, rfl, q2, q3, q4, q5, q6, q7⟩ := n1.ex
  refine ⟨F1, o, .src :: rs, some n, _, s1.eh, .cons ⟨rfl, fun z => nomatch z⟩ (hvs F1 o _), ?_, fun m hm => ?_, t1.2.2, fun r fu' v H' F' hp ou => ?_⟩
  · have := (hvs F1 o none).len
    rw [List.length_cons, this]; exact t1.2.1
  · cases hm
    exact ⟨q2, t1.1.at q4 q5⟩
  · have s2 := s1.after2 (v := v) n1 ou
    cases r with
    | val d => exact k _ _ v H' F' a1 hp (s2.push (r := .val d) ou.rep)
    | own es =>
      obtain ⟨F'', s4⟩ := s2.still (NewL.of s1 rfl id ou.rep)
      exact k _ _ v H' F'' a1 hp s4
theorem as_nil : PA X [] fun _ H Q => Q [] H := pa_nil
theorem as_cons {e : Expr} {es : List Expr} {v : V} {vs : List V} (h : PE X e (tC v)) (hr : PA X es fun _ H Q => Q vs H) (hs : starEach (e :: es) X.env = (false, eval e X.env) :: starEach es X.env := by rfl) : PA X (e :: es) fun _ H Q => Q (v :: vs) H := pa_cons h hr hs
end
/-! ### built-ins in short -/
section
variable {X : Cx} {x : Str} {p pos : Pos} {e e2 : Expr} {tr : DA}
theorem e_len (hg : Gl X "len") (hm : X.mg "len" = none) (ha : PA X [e] (upA X.K tr)) (he : starEach [e] X.env = (false, eval e X.env) :: starEach [] X.env := by rfl) : PE X (.Call (.Name "len" p) [e] [] pos) (up X.K (dCB cLen tr)) := e_callB call_len ok_len hg hm PySem.boot_len ha (by decide) (by decide) he rfl
theorem e_abs (hg : Gl X "abs") (hm : X.mg "abs" = none) (ha : PA X [e] (upA X.K tr)) (he : starEach [e] X.env = (false, eval e X.env) :: starEach [] X.env := by rfl) : PE X (.Call (.Name "abs" p) [e] [] pos) (up X.K (dCB (cInt1 fun i => if i < 0 then -i else i) tr)) := e_callB call_abs ok_int1 hg hm (by decide +kernel) ha (by decide) (by decide) he rfl
theorem e_max (hc : X.calm = true) (hg : Gl X "max") (hm : X.mg "max" = none) (ha : PA X [e, e2] (upA X.K tr)) (he : starEach [e, e2] X.env = (false, eval e X.env) :: starEach [e2] X.env := by rfl) (hpl : (backTo pos (starEach [e2] X.env)).any (·.1) = false := by rfl) :
    PE X (.Call (.Name "max" p) [e, e2] [] pos) (up X.K (dCB (cInt2 fun i j => if j > i then j else i) tr)) := e_callB (call_max2 hc) ok_int2 hg hm (by decide +kernel) ha (by decide) (by decide) he hpl
theorem e_min (hc : X.calm = true) (hg : Gl X "min") (hm : X.mg "min" = none) (ha : PA X [e, e2] (upA X.K tr)) (he : starEach [e, e2] X.env = (false, eval e X.env) :: starEach [e2] X.env := by rfl) (hpl : (backTo pos (starEach [e2] X.env)).any (·.1) = false := by rfl) :
    PE X (.Call (.Name "min" p) [e, e2] [] pos) (up X.K (dCB (cInt2 fun i j => if j < i then j else i) tr)) := e_callB (call_min2 hc) ok_int2 hg hm (by decide +kernel) ha (by decide) (by decide) he hpl
theorem e_all (hc : X.calm = true) (hg : Gl X "all") (hm : X.mg "all" = none) (ha : PA X [e] (upA X.K tr)) (he : starEach [e] X.env = (false, eval e X.env) :: starEach [] X.env := by rfl) : PE X (.Call (.Name "all" p) [e] [] pos) (up X.K (dCB cAll tr)) := e_callB (cr_all hc) ok_all hg hm (by decide +kernel) ha (by decide) (by decide) he rfl
theorem e_tuple (hg : Gl X "tuple") (hm : X.mg "tuple" = none) (ha : PA X [e] (upA X.K tr)) (he : starEach [e] X.env = (false, eval e X.env) :: starEach [] X.env := by rfl) : PE X (.Call (.Name "tuple" p) [e] [] pos) (up X.K (dCB cTuple tr)) := e_callTy call_tuple_of ok_tuple hg hm (by decide +kernel) ha (by decide) (by decide) he rfl
theorem e_toint (hg : Gl X "int") (hm : X.mg "int" = none) (ha : PA X [e] (upA X.K tr)) (he : starEach [e] X.env = (false, eval e X.env) :: starEach [] X.env := by rfl) : PE X (.Call (.Name "int" p) [e] [] pos) (up X.K (dCB cInt tr)) := e_callTy call_int1 ok_int hg hm (by decide +kernel) ha (by decide) (by decide) he rfl
theorem e_glob {v : V} {u : Value} {d : Da} (hg : Gl X x) (hm : X.mg x = some u) (r : RelV v u) (hr : ∀ F, Rp X.K F v d) (hd : (x == ("__debug__" : Str)) = false := by decide) : PE X (.Name x pos) (up X.K (dC d)) := e_c (pe_glob hg hm r hd) hr
theorem c_ty {T : String} (hg : Gl X x) (hm : X.mg x = none) (hv : bootBuiltins x = some (.type T)) (hn : x ≠ "__name__" := by decide) (hd : (x == ("__debug__" : Str)) = false := by decide) : PE X (.Name x pos) (tC (.ty T)) := pe_bltn hg hm hv rfl hn hd
end
end Z

namespace Z
open L2 PySem PySem.Spec PyProof.Rows
open Evl (Ex ex_l ex_t ex_rd fresh_back)
abbrev oSub : BinF := fI0 fun i j => .int (i - j)
abbrev oAddI : BinF := fI0 fun i j => .int (i + j)
abbrev oMul : BinF := fI CMulX fun i j => .int (i * j)
abbrev oDiv : BinF := fI CDivW fun i j => .int (i / j)
abbrev oMod : BinF := fI (fun _ j => 0 < j) fun i j => .int (i % j)
abbrev oShl : BinF := fI CShl fun i j => .int (i * 2 ^ j.toNat)
abbrev oShr : BinF := fI (fun _ j => 0 ≤ j) fun i j => .int (i / 2 ^ j.toNat)
abbrev oPow : BinF := fI CPowX fun i j => .int (i ^ j.toNat)
abbrev oAnd : BinF := fI0 fun i j => .int (Builtin.bitAnd i j)
abbrev oLt : BinF := fI0 fun i j => .bool (decide (i < j))
abbrev oLe : BinF := fI0 fun i j => .bool (decide (i ≤ j))
abbrev oGt : BinF := fI0 fun i j => .bool (decide (j < i))
abbrev oGe : BinF := fI0 fun i j => .bool (decide (j ≤ i))
abbrev oAbs : CF := cInt1 fun i => if i < 0 then -i else i
abbrev oMax : CF := cInt2 fun i j => if j > i then j else i
abbrev oMin : CF := cInt2 fun i j => if j < i then j else i
/-! ### comparisons as tests -/
theorem test_core {K : Fg} {t : DE} {σ : L2.St} {H : Hp} {Q : Bool → Hp → Prop} (q : upT K (dTest t) σ H Q) : up K t σ H fun x H1 => ∃ k, x = .bl k ∧ Q k H1 := by
  obtain ⟨c, g, tv, tr, F, ad, post, s, t1, k⟩ := q
  refine ⟨c, g, tv, tr, F, ad, _, s, t1, fun r g1 v1 H1 F1 a1 h1 s1 => ?_⟩
  cases r with
  | val d =>
    cases d with
    | bool b => exact ⟨b, s1.top.bl rfl, k b g1 H1 F1 a1 h1 s1.pop1⟩
    | _ => exact h1.elim
  | _ => exact h1.elim
section
variable {X : Cx} {a b c : Expr} {ta tb tc : DE} {pos : Pos}
theorem t_cmp {op : CmpOp} {r : R2} {f : BinF} (ho : OpR X (compareOp op) r) (hf : BinOk X.K r f) (ha : PE X a (up X.K ta)) (hb : PE X b (up X.K tb)) (hm : behindInMarks op b = false) : PT X (.Compare a [op] [b] pos) (upT X.K (dTest (dBin f ta tb))) :=
  pt_to (pt_cmpR ho ha hb hm) fun σ H Q q => bin_core hf σ H _ (test_core q)
theorem t_lt (ha : PE X a (up X.K ta)) (hb : PE X b (up X.K tb)) : PT X (.Compare a [.Lt] [b] pos) (upT X.K (dTest (dBin oLt ta tb))) := t_cmp op_lt ok_I0b ha hb (nomark _)
theorem t_le (ha : PE X a (up X.K ta)) (hb : PE X b (up X.K tb)) : PT X (.Compare a [.LtE] [b] pos) (upT X.K (dTest (dBin oLe ta tb))) := t_cmp op_le ok_I0b ha hb (nomark _)
theorem t_gt (ha : PE X a (up X.K ta)) (hb : PE X b (up X.K tb)) : PT X (.Compare a [.Gt] [b] pos) (upT X.K (dTest (dBin oGt ta tb))) := t_cmp op_gt ok_I0b ha hb (nomark _)
theorem t_ge (ha : PE X a (up X.K ta)) (hb : PE X b (up X.K tb)) : PT X (.Compare a [.GtE] [b] pos) (upT X.K (dTest (dBin oGe ta tb))) := t_cmp op_ge ok_I0b ha hb (nomark _)
theorem t_eq (hu : X.A.units + 64 < cLine) (ha : PE X a (up X.K ta)) (hb : PE X b (up X.K tb)) : PT X (.Compare a [.Eq] [b] pos) (upT X.K (dTest (dBin fEq ta tb))) :=
  t_cmp (op_eqD hu) (fun F H x y d e post Q hx r1 r2 hf k => ⟨d, e, r1.dp hx d x (shaped_lay hf.1), r2.dp hx e y (shaped_lay hf.2.1), hf.1, hf.2.1, k _ _ H F hf.2.2 (Gr.refl hx) (.bl _)⟩) ha hb (nomark _)
theorem t_ne (hu : X.A.units + 64 < cLine) (ha : PE X a (up X.K ta)) (hb : PE X b (up X.K tb)) : PT X (.Compare a [.NotEq] [b] pos) (upT X.K (dTest (dBin fNe ta tb))) :=
  t_cmp (op_neD hu) (fun F H x y d e post Q hx r1 r2 hf k => ⟨d, e, r1.dp hx d x (shaped_lay hf.1), r2.dp hx e y (shaped_lay hf.2.1), hf.1, hf.2.1, k _ _ H F hf.2.2 (Gr.refl hx) (.bl _)⟩) ha hb (nomark _)
theorem t_in (ha : PE X a (up X.K ta)) (hb : PE X b (up X.K tb)) (hm : behindInMarks .In b = false := by rfl) : PT X (.Compare a [.In] [b] pos) (upT X.K (dTest (dBin (fIn false) ta tb))) := t_cmp op_in_seq ok_in ha hb hm
theorem t_notin (ha : PE X a (up X.K ta)) (hb : PE X b (up X.K tb)) (hm : behindInMarks .NotIn b = false := by rfl) : PT X (.Compare a [.NotIn] [b] pos) (upT X.K (dTest (dBin (fIn true) ta tb))) := t_cmp op_notIn_seq ok_in ha hb hm
theorem isn_core {neg : Bool} {σ : L2.St} {H : Hp} {Q : VK} (q : up X.K (dIsN neg ta) σ H Q) : up X.K ta σ H fun x H1 => Q (.bl (if neg then !decide (x = .non) else decide (x = .non))) H1 := by
  obtain ⟨c, g, tv, tr, F, ad, post, s, t1, k⟩ := q
  refine ⟨c, g, tv, tr, F, ad, _, s, t1, fun r g1 v1 H1 F1 a1 h1 s1 => ?_⟩
  cases r with
  | val d =>
    have hr : Rp X.K F1 v1 d := s1.top
    rw [non_v hr]
    exact k _ g1 _ H1 F1 a1 h1 (s1.pop1.push (r := .val (.bool _)) (Rp.bl _))
  | _ => exact h1.elim
theorem t_isN {j : Nat} {pos' : Pos} (ha : PE X a (up X.K ta)) : PT X (.Compare a [.Is] [.Constant .none j pos'] pos) (upT X.K (dTest (dIsN false ta))) := pt_to (pt_cmpR op_isN ha pe_non (nomark _)) fun σ H Q q => by
  obtain ⟨c, g, tv, tr, F, ad, post, s, t1, k⟩ := isn_core (test_core q)
  exact ⟨c, g, tv, tr, F, ad, post, s, t1, fun r g1 v1 H1 F1 a1 h1 s1 => ⟨rfl, k r g1 v1 H1 F1 a1 h1 s1⟩⟩
theorem t_notN {j : Nat} {pos' : Pos} (ha : PE X a (up X.K ta)) : PT X (.Compare a [.IsNot] [.Constant .none j pos'] pos) (upT X.K (dTest (dIsN true ta))) := pt_to (pt_cmpR op_notN ha pe_non (nomark _)) fun σ H Q q => by
  obtain ⟨c, g, tv, tr, F, ad, post, s, t1, k⟩ := isn_core (test_core q)
  exact ⟨c, g, tv, tr, F, ad, post, s, t1, fun r g1 v1 H1 F1 a1 h1 s1 => ⟨rfl, k r g1 v1 H1 F1 a1 h1 s1⟩⟩
theorem t_lele (ha : PE X a (up X.K ta)) (hb : PE X b (up X.K tb)) (hc : PE X c (up X.K tc)) (hm : lastMarks [.LtE, .LtE] [b, c] = false := by with_unfolding_all rfl) : PT X (.Compare a [.LtE, .LtE] [b, c] pos) (upT X.K (dTest (dChain oLe oLe ta tb tc))) := pt_to (pt_chain op_le op_le ha hb hc hm) fun _ _ _ q => chain_core ok_I0b ok_I0b (test_core q)
theorem t_lelt (ha : PE X a (up X.K ta)) (hb : PE X b (up X.K tb)) (hc : PE X c (up X.K tc)) (hm : lastMarks [.LtE, .Lt] [b, c] = false := by with_unfolding_all rfl) : PT X (.Compare a [.LtE, .Lt] [b, c] pos) (upT X.K (dTest (dChain oLe oLt ta tb tc))) := pt_to (pt_chain op_le op_lt ha hb hc hm) fun _ _ _ q => chain_core ok_I0b ok_I0b (test_core q)
theorem e_ltlt (ha : PE X a (up X.K ta)) (hb : PE X b (up X.K tb)) (hc : PE X c (up X.K tc)) (hm : lastMarks [.Lt, .Lt] [b, c] = false := by with_unfolding_all rfl) : PE X (.Compare a [.Lt, .Lt] [b, c] pos) (up X.K (dChain oLt oLt ta tb tc)) := e_chain op_lt op_lt ok_I0b ok_I0b ha hb hc hm
theorem t_ltlt (ha : PE X a (up X.K ta)) (hb : PE X b (up X.K tb)) (hc : PE X c (up X.K tc)) (hm : lastMarks [.Lt, .Lt] [b, c] = false := by with_unfolding_all rfl) : PT X (.Compare a [.Lt, .Lt] [b, c] pos) (upT X.K (dTest (dChain oLt oLt ta tb tc))) := pt_to (pt_chain op_lt op_lt ha hb hc hm) fun _ _ _ q => chain_core ok_I0b ok_I0b (test_core q)
theorem e_ltle (ha : PE X a (up X.K ta)) (hb : PE X b (up X.K tb)) (hc : PE X c (up X.K tc)) (hm : lastMarks [.Lt, .LtE] [b, c] = false := by with_unfolding_all rfl) : PE X (.Compare a [.Lt, .LtE] [b, c] pos) (up X.K (dChain oLt oLe ta tb tc)) := e_chain op_lt op_le ok_I0b ok_I0b ha hb hc hm
theorem t_ltle (ha : PE X a (up X.K ta)) (hb : PE X b (up X.K tb)) (hc : PE X c (up X.K tc)) (hm : lastMarks [.Lt, .LtE] [b, c] = false := by with_unfolding_all rfl) : PT X (.Compare a [.Lt, .LtE] [b, c] pos) (upT X.K (dTest (dChain oLt oLe ta tb tc))) := pt_to (pt_chain op_lt op_le ha hb hc hm) fun _ _ _ q => chain_core ok_I0b ok_I0b (test_core q)
end
/-- a pair of ints -/
abbrev num (n d : Int) : Da := .tuple [.int n, .int d]
theorem atI_0 {α : Type} {x0 : α} {xs : List α} : atI (x0 :: xs) 0 = some x0 := by
  unfold atI ixN
  rw [if_pos (by decide), if_pos (by simp only [List.length_cons]; omega)]
  rfl
theorem atI_1 {α : Type} {x0 x1 : α} {xs : List α} : atI (x0 :: x1 :: xs) 1 = some x1 := by
  unfold atI ixN
  rw [if_pos (by decide), if_pos (by simp only [List.length_cons]; omega)]
  rfl
theorem atI_2 {α : Type} {x0 x1 x2 : α} {xs : List α} : atI (x0 :: x1 :: x2 :: xs) 2 = some x2 := by
  unfold atI ixN
  rw [if_pos (by decide), if_pos (by simp only [List.length_cons]; omega)]
  rfl
theorem atI_3 {α : Type} {x0 x1 x2 x3 : α} {xs : List α} : atI (x0 :: x1 :: x2 :: x3 :: xs) 3 = some x3 := by
  unfold atI ixN
  rw [if_pos (by decide), if_pos (by simp only [List.length_cons]; omega)]
  rfl
theorem atI_4 {α : Type} {x0 x1 x2 x3 x4 : α} {xs : List α} : atI (x0 :: x1 :: x2 :: x3 :: x4 :: xs) 4 = some x4 := by
  unfold atI ixN
  rw [if_pos (by decide), if_pos (by simp only [List.length_cons]; omega)]
  rfl
theorem atI_5 {α : Type} {x0 x1 x2 x3 x4 x5 : α} {xs : List α} : atI (x0 :: x1 :: x2 :: x3 :: x4 :: x5 :: xs) 5 = some x5 := by
  unfold atI ixN
  rw [if_pos (by decide), if_pos (by simp only [List.length_cons]; omega)]
  rfl
/-! ### equality of plain data -/
theorem eqv_ii (i j : Int) : (PyData.int i).eqv (.int j) = decide (i = j) := by
  simp only [PyData.eqv]
  rw [Bool.eq_iff_iff]
  simp
theorem eqv_ss (x y : Str) : (PyData.str x).eqv (.str y) = decide (x = y) := by
  simp only [PyData.eqv]
  rw [Bool.eq_iff_iff]
  simp
theorem eqv_num (a b c d : Int) : (PyData.tuple [.int a, .int b]).eqv (.tuple [.int c, .int d]) = (decide (a = c) && decide (b = d)) := by
  simp only [PyData.eqv, PyData.eqvAll]
  rw [Bool.eq_iff_iff]
  simp
theorem shaped_int (i : Int) : SeqAt.shaped (.int i) = true := rfl
theorem shaped_num (i j : Int) : SeqAt.shaped (.tuple [.int i, .int j]) = true := rfl
theorem shaped_none : SeqAt.shaped .none = true := rfl
theorem flat_str (x : Str) : flatD (.str x) = true := rfl
theorem flat_int (x : Int) : flatD (.int x) = true := rfl
theorem flat_none : flatD .none = true := rfl
/-! ### sizes -/
/-- less than n bits -/
structure Bn (n : Nat) (i : Int) : Prop where
  lt : i.natAbs < 2 ^ n
theorem bits_lt {i : Int} {n : Nat} (h : Bn n i) : Builtin.Int.intBits i ≤ n := by
  unfold Builtin.Int.intBits
  split
  · exact Nat.zero_le _
  · rename_i h0
    have h1 : i ≠ 0 := fun z => h0 (by rw [z]; rfl)
    have : i.natAbs.log2 < n := (Nat.log2_lt (by omega)).mpr h.lt
    omega
theorem Bn.mono {n m : Nat} {i : Int} (h : Bn n i) (hm : n ≤ m) : Bn m i := ⟨Nat.lt_of_lt_of_le h.lt (Nat.pow_le_pow_right (by decide) hm)⟩
theorem Bn.le {n : Nat} {i j : Int} (h : Bn n j) (h0 : 0 ≤ i) (h1 : i ≤ j) : Bn n i := ⟨by have := h.lt; omega⟩
theorem Bn.abs {n : Nat} {i j : Int} (h : Bn n j) (h1 : i.natAbs ≤ j.natAbs) : Bn n i := ⟨by have := h.lt; omega⟩
theorem Bn.nat {n : Nat} {i : Nat} (h : i < 2 ^ n) : Bn n (i : Int) := ⟨h⟩
theorem Bn.mul {a b : Nat} {i j : Int} (ha : Bn a i) (hb : Bn b j) : Bn (a + b) (i * j) := ⟨by
  rw [Int.natAbs_mul, Nat.pow_add]
  exact Nat.mul_lt_mul'' ha.lt hb.lt⟩
theorem Bn.add {a : Nat} {i j : Int} (ha : Bn a i) (hb : Bn a j) : Bn (a + 1) (i + j) := ⟨by
  have h1 := ha.lt
  have h2 := hb.lt
  have h3 := Int.natAbs_add_le i j
  rw [Nat.pow_succ]
  omega⟩
theorem Bn.neg {a : Nat} {i : Int} (ha : Bn a i) : Bn a (-i) := ⟨by rw [Int.natAbs_neg]; exact ha.lt⟩
theorem Bn.sub {a : Nat} {i j : Int} (ha : Bn a i) (hb : Bn a j) : Bn (a + 1) (i - j) := by
  rw [Int.sub_eq_add_neg]
  exact ha.add hb.neg
theorem Bn.pow2 {n m : Nat} (h : n < m) : Bn m ((2 : Int) ^ n) := ⟨by
  rw [Int.natAbs_pow]
  exact Nat.pow_lt_pow_right (by decide) h⟩
theorem Bn.small {m : Nat} {i : Int} (h1 : -18446744073709551616 < i) (h2 : i < 18446744073709551616) (hm : 64 ≤ m) : Bn m i := by
  have e : (2 : Nat) ^ 64 = 18446744073709551616 := by decide
  exact Bn.mono (n := 64) ⟨by rw [e]; omega⟩ hm
theorem Bn.divL {n : Nat} {i j : Int} (h : Bn n i) (h0 : 0 ≤ i) (hj : 0 < j) : Bn n (i / j) := h.le (Int.ediv_nonneg h0 (Int.le_of_lt hj)) (Int.ediv_le_self _ h0)
theorem Bn.modR {n : Nat} {i j : Int} (h : Bn n j) (hj : 0 < j) : Bn n (i % j) := h.le (Int.emod_nonneg _ (by omega)) (Int.le_of_lt (Int.emod_lt_of_pos _ hj))
theorem mulX {i j : Int} (a b : Nat) (ha : Bn a i) (hb : Bn b j) (h : a + b ≤ 134217728) : CMulX i j := by
  have h1 := bits_lt ha
  have h2 := bits_lt hb
  unfold CMulX
  omega
theorem shlX {i j : Int} (a : Nat) (ha : Bn a i) (h0 : 0 ≤ j) (h : (a : Int) + j ≤ 134217728) : CShl i j := by
  have h1 := bits_lt ha
  refine ⟨h0, ?_⟩
  have e : (2 : Int) ^ 27 = 134217728 := by decide
  rw [e]
  omega
theorem divX {i j : Int} (b : Nat) (h0 : 0 < j) (hb : Bn b j) (h9 : b ≤ 9000) : CDivW i j := wide_div h0 (Bn.mono hb h9).lt (by decide) (Nat.le_refl _)
theorem pow2_pos (n : Nat) : (0 : Int) < 2 ^ n := Int.pow_pos (by decide)
theorem shlB {i : Int} {a n : Nat} (ha : Bn a i) : Bn (a + n + 1) (i * 2 ^ n) := by
  have := ha.mul (Bn.pow2 (n := n) (m := n + 1) (by omega))
  exact this.mono (by omega)
end Z

namespace Z
open L2 PySem PySem.Spec PyProof.Rows
/-! ### loops by an invariant -/
theorem forD_inv {t : DG} {tb : DS} {d : DEnds} (I : Gs → Prop) : ∀ {ds : List Da} {g : Gs}, (∀ x ∈ ds, ∀ g, I g → ∀ N : Gs → Prop, (∀ g', I g' → N g') → t (.val x) g fun g1 => tb { d with nx := N, ct := N, bk := d.nx } g1) → (∀ g, I g → d.nx g) → I g → forD t tb ds d g
  | [], g, _, hd, h => hd g h
  | x :: xs, g, hs, hd, h => hs x List.mem_cons_self g h (forD t tb xs d) fun g' h' => forD_inv I (fun y hy => hs y (List.mem_cons_of_mem _ hy)) hd h'
/-- by the number of turns gone -/
theorem forD_ix {t : DG} {tb : DS} {d : DEnds} (I : Nat → Gs → Prop) : ∀ {ds : List Da} {g : Gs} {k : Nat}, (∀ (i : Nat) x, ds[i]? = some x → ∀ g, I (k + i) g → ∀ N : Gs → Prop, (∀ g', I (k + i + 1) g' → N g') → t (.val x) g fun g1 => tb { d with nx := N, ct := N, bk := d.nx } g1) →
    (∀ g, I (k + ds.length) g → d.nx g) → I k g → forD t tb ds d g
  | [], g, k, _, hd, h => hd g h
  | x :: xs, g, k, hs, hd, h => hs 0 x rfl g h (forD t tb xs d) fun g' h' => forD_ix I (k := k + 1) (fun i y hy g2 h2 N hN => hs (i + 1) y (by simpa using hy) g2 (by rw [show k + (i + 1) = k + 1 + i by omega]; exact h2) N (fun g3 h3 => hN g3 (by rw [show k + 1 + i + 1 = k + (i + 1) + 1 by omega]; exact h3)))
      (fun g2 h2 => hd g2 (by rw [List.length_cons, show k + (xs.length + 1) = k + 1 + xs.length by omega]; exact h2)) h'
theorem fuN_self (fu : Option Nat) : fuN fu fu = fu := by cases fu <;> rfl
/-- a comprehension whose element is a plain function of the item -/
theorem lc_map {sl : List (Option Sv)} {i : Nat} {te : DE} (f : Da → Da) {Q : List Da → Option Nat → Prop} {fu : Option Nat} : ∀ {ds acc : List Da},
    (∀ x ∈ ds, ∀ R : Rv → Gs → Prop, (∀ g3 : Gs, g3.fu = fu → R (.val (f x)) g3) → te (Gs.set ⟨sl, fu, false⟩ i (.val x)) R) → acc.length + ds.length ≤ 1000000 → Q (acc ++ ds.map f) fu → lcD sl (dN i) dYes te ds acc fu Q
  | [], acc, _, _, h => by rw [List.map_nil, List.append_nil] at h; exact h
  | x :: xs, acc, hs, hl, h => by
    refine ⟨fun _ => hs x List.mem_cons_self _ fun g3 e => ⟨?_, ?_⟩, fun z => nomatch z⟩
    · rw [List.length_cons] at hl; omega
    · rw [e, fuN_self]
      refine lc_map f (fun y hy => hs y (List.mem_cons_of_mem _ hy)) ?_ ?_
      · rw [List.length_cons] at hl
        rw [List.length_append, List.length_cons, List.length_nil]
        omega
      · rw [List.append_assoc]
        exact h
/-! ### gcd -/
theorem gcd_step {a b : Int} (ha : 0 ≤ a) (hb : 0 < b) : Int.gcd b (a % b) = Int.gcd a b := by
  obtain ⟨n, rfl⟩ := Int.eq_ofNat_of_zero_le ha
  obtain ⟨m, rfl⟩ := Int.eq_ofNat_of_zero_le (Int.le_of_lt hb)
  rw [← Int.natCast_emod, Int.gcd_natCast_natCast, Int.gcd_natCast_natCast, Nat.gcd_comm n m, Nat.gcd_rec m n, Nat.gcd_comm]
theorem gcd_pos {a b : Int} (hb : 0 < b) : 0 < (Int.gcd a b : Int) := by
  have := Int.gcd_pos_of_ne_zero_right a (show b ≠ 0 by omega)
  omega
theorem gcd_le {a b : Int} (hb : 0 < b) : (Int.gcd a b : Int) ≤ b := by
  have h : (Int.gcd a b : Int) ∣ b := Int.gcd_dvd_right a b
  exact Int.le_of_dvd hb h
def low (n d : Int) : Int × Int := (n / Int.gcd n d, d / Int.gcd n d)
def lowD (n d : Int) : Da := num (low n d).1 (low n d).2
/-! ### program's arithmetic, as plain functions -/
def bl (i : Int) : Int := (Builtin.Int.intBits i : Nat)
/-- times 2 ** f, as two ints -/
def scI (n d f : Int) : Int × Int := (n * 2 ^ f.toNat, d * 2 ^ (-f).toNat)
def powI (k e : Int) : Int × Int := low (scI k 1 e).1 (scI k 1 e).2
def cellI (n d w : Int) : Int × Int :=
  if 2 ^ w.toNat ≤ (scI n d (0 - (bl n - bl d - w))).1 / (scI n d (0 - (bl n - bl d - w))).2 then ((scI n d (0 - (bl n - bl d - w + 1))).1 / (scI n d (0 - (bl n - bl d - w + 1))).2, bl n - bl d - w + 1)
  else ((scI n d (0 - (bl n - bl d - w))).1 / (scI n d (0 - (bl n - bl d - w))).2, bl n - bl d - w)
def posI (n d w : Int) : Int × Int :=
  low ((scI n d (0 - (cellI n d w).2)).1 - (cellI n d w).1 * (scI n d (0 - (cellI n d w).2)).2) (scI n d (0 - (cellI n d w).2)).2
/-- the six rules -/
inductive Ru where | dn | hd | he | hu | od | up
  deriving DecidableEq
def Ru.s : Ru → Str
  | .dn => "down"
  | .hd => "half_down"
  | .he => "half_even"
  | .hu => "half_up"
  | .od => "odd"
  | .up => "up"
theorem shaped_ru (r : Ru) : SeqAt.shaped (.str r.s) = true := by cases r <;> decide +kernel
def goesUp (k n d : Int) : Ru → Bool
  | .dn => false
  | .up => true
  | .od => decide (k % 2 = 0)
  | .hd => decide (d < 2 * n)
  | .hu => decide (d ≤ 2 * n)
  | .he => if 2 * n = d then decide (k % 2 = 1) else decide (d < 2 * n)
def endsI (n d w : Int) : (Int × Int) × (Int × Int) :=
  if (posI n d w).1 = 0 then ((n, d), (n, d)) else (powI (cellI n d w).1 (cellI n d w).2, powI ((cellI n d w).1 + 1) (cellI n d w).2)
def roundI (n d w : Int) (r : Ru) : Int × Int := if goesUp (cellI n d w).1 (posI n d w).1 (posI n d w).2 r then (endsI n d w).2 else (endsI n d w).1
abbrev nm (p : Int × Int) : Da := num p.1 p.2
end Z

namespace Z
open L2 PySem PySem.Spec PyProof.Rows
example (a b c : Int) : (a + b) * (a + b) * c = a * a * c + 2 * a * b * c + b * b * c := by grind
/-! ### cells -/
theorem bl_pos {n : Int} (h : 0 < n) : ∃ m : Nat, bl n = (m : Int) + 1 ∧ (2 : Int) ^ m ≤ n ∧ n < 2 ^ (m + 1) := by
  obtain ⟨k, rfl⟩ := Int.eq_ofNat_of_zero_le (Int.le_of_lt h)
  have hk : k ≠ 0 := by omega
  refine ⟨k.log2, ?_, ?_, ?_⟩
  · unfold bl Builtin.Int.intBits
    rw [if_neg (by simp; omega), Int.natAbs_natCast]
    omega
  · have := Nat.log2_self_le hk
    have e : ((2 ^ k.log2 : Nat) : Int) = (2 : Int) ^ k.log2 := by norm_cast
    omega
  · have := Nat.lt_log2_self (n := k)
    have e : ((2 ^ (k.log2 + 1) : Nat) : Int) = (2 : Int) ^ (k.log2 + 1) := by norm_cast
    omega
/-- the first guess: between 2 ^ (w - 1) and 2 ^ (w + 1) -/
theorem guess {n d w e : Int} (hn : 0 < n) (hd : 0 < d) (hw : 1 ≤ w) (he : e = bl n - bl d - w) :
    (scI n d (0 - e)).2 * 2 ^ (w - 1).toNat ≤ (scI n d (0 - e)).1 ∧ (scI n d (0 - e)).1 < (scI n d (0 - e)).2 * 2 ^ (w + 1).toNat := by
  obtain ⟨p, ep, p1, p2⟩ := bl_pos hn
  obtain ⟨q, eq, q1, q2⟩ := bl_pos hd
  obtain ⟨v, ev⟩ : ∃ v : Nat, w = (v : Int) + 1 := ⟨(w - 1).toNat, by omega⟩
  have e1 : (w - 1).toNat = v := by omega
  have e2 : (w + 1).toNat = v + 2 := by omega
  rw [e1, e2]
  unfold scI
  generalize hA : (0 - e).toNat = A
  generalize hB : (-(0 - e)).toNat = B
  have hAB : q + 1 + B + v = p + A := by omega
  show d * 2 ^ B * 2 ^ v ≤ n * 2 ^ A ∧ n * 2 ^ A < d * 2 ^ B * 2 ^ (v + 2)
  have h2A := pow2_pos A
  have h2B := pow2_pos B
  have h2v := pow2_pos v
  constructor
  · have s1 : d * 2 ^ B * 2 ^ v ≤ 2 ^ (q + 1) * 2 ^ B * 2 ^ v := Int.mul_le_mul_of_nonneg_right (Int.mul_le_mul_of_nonneg_right (Int.le_of_lt q2) (Int.le_of_lt h2B)) (Int.le_of_lt h2v)
    have s2 : (2 : Int) ^ (q + 1) * 2 ^ B * 2 ^ v = 2 ^ p * 2 ^ A := by rw [← Int.pow_add, ← Int.pow_add, ← Int.pow_add, hAB]
    have s3 : (2 : Int) ^ p * 2 ^ A ≤ n * 2 ^ A := Int.mul_le_mul_of_nonneg_right p1 (Int.le_of_lt h2A)
    omega
  · have s1 : n * 2 ^ A < 2 ^ (p + 1) * 2 ^ A := Int.mul_lt_mul_of_pos_right p2 h2A
    have s2 : (2 : Int) ^ (p + 1) * 2 ^ A = 2 ^ q * 2 ^ B * 2 ^ (v + 2) := by
      rw [← Int.pow_add, ← Int.pow_add, ← Int.pow_add]
      congr 1
      omega
    have s3 : (2 : Int) ^ q * 2 ^ B * 2 ^ (v + 2) ≤ d * 2 ^ B * 2 ^ (v + 2) := Int.mul_le_mul_of_nonneg_right (Int.mul_le_mul_of_nonneg_right q1 (Int.le_of_lt h2B)) (Int.le_of_lt (pow2_pos _))
    omega
theorem scI_pos {n d f : Int} (hn : 0 < n) (hd : 0 < d) : 0 < (scI n d f).1 ∧ 0 < (scI n d f).2 := ⟨Int.mul_pos hn (pow2_pos _), Int.mul_pos hd (pow2_pos _)⟩
/-- one exponent more: half of it -/
theorem scI_half (n d e : Int) : (scI n d (0 - (e + 1))).1 * (scI n d (0 - e)).2 * 2 = (scI n d (0 - e)).1 * (scI n d (0 - (e + 1))).2 := by
  unfold scI
  generalize hA : (0 - (e + 1)).toNat = A
  generalize hB : (-(0 - (e + 1))).toNat = B
  generalize hA' : (0 - e).toNat = A'
  generalize hB' : (-(0 - e)).toNat = B'
  have h : A + B' + 1 = A' + B := by omega
  show n * 2 ^ A * (d * 2 ^ B') * 2 = n * 2 ^ A' * (d * 2 ^ B)
  have s : (2 : Int) ^ A * 2 ^ B' * 2 = 2 ^ A' * 2 ^ B := by
    rw [← Int.pow_add, ← Int.pow_add, ← h, Int.pow_succ]
  calc n * 2 ^ A * (d * 2 ^ B') * 2 = n * d * (2 ^ A * 2 ^ B' * 2) := by grind
    _ = n * d * (2 ^ A' * 2 ^ B) := by rw [s]
    _ = n * 2 ^ A' * (d * 2 ^ B) := by grind
/-- the cell: its k has just w bits, and is the whole part -/
theorem cellI_spec {n d w : Int} (hn : 0 < n) (hd : 0 < d) (hw : 1 ≤ w) :
    (cellI n d w).1 = (scI n d (0 - (cellI n d w).2)).1 / (scI n d (0 - (cellI n d w).2)).2 ∧ 2 ^ (w - 1).toNat ≤ (cellI n d w).1 ∧ (cellI n d w).1 < 2 ^ w.toNat ∧ bl n - bl d - w ≤ (cellI n d w).2 ∧ (cellI n d w).2 ≤ bl n - bl d - w + 1 := by
  obtain ⟨g1, g2⟩ := guess hn hd hw rfl
  have ew : w.toNat = (w - 1).toNat + 1 := by omega
  have ew2 : (w + 1).toNat = w.toNat + 1 := by omega
  generalize he : bl n - bl d - w = e at g1 g2
  obtain ⟨a0, b0⟩ := scI_pos (f := 0 - e) hn hd
  obtain ⟨a1, b1⟩ := scI_pos (f := 0 - (e + 1)) hn hd
  by_cases hc : 2 ^ w.toNat ≤ (scI n d (0 - e)).1 / (scI n d (0 - e)).2
  · have ec : cellI n d w = ((scI n d (0 - (e + 1))).1 / (scI n d (0 - (e + 1))).2, e + 1) := by
      unfold cellI
      rw [he, if_pos hc]
    rw [ec]
    have hh := scI_half n d e
    have hc' := (Int.le_ediv_iff_mul_le b0).mp hc
    refine ⟨rfl, (Int.le_ediv_iff_mul_le b1).mpr ?_, (Int.ediv_lt_iff_lt_mul b1).mpr ?_, by omega, by omega⟩
    · apply Int.le_of_mul_le_mul_right (a := (scI n d (0 - e)).2 * 2) _ (by omega)
      rw [show (scI n d (0 - (e + 1))).1 * ((scI n d (0 - e)).2 * 2) = (scI n d (0 - e)).1 * (scI n d (0 - (e + 1))).2 by rw [← hh]; grind]
      have := Int.mul_le_mul_of_nonneg_right hc' (Int.le_of_lt b1)
      rw [ew, Int.pow_succ] at this
      grind
    · apply Int.lt_of_mul_lt_mul_right (a := (scI n d (0 - e)).2 * 2) _ (by omega)
      rw [show (scI n d (0 - (e + 1))).1 * ((scI n d (0 - e)).2 * 2) = (scI n d (0 - e)).1 * (scI n d (0 - (e + 1))).2 by rw [← hh]; grind]
      have := Int.mul_lt_mul_of_pos_right g2 b1
      rw [ew2, Int.pow_succ] at this
      grind
  · have ec : cellI n d w = ((scI n d (0 - e)).1 / (scI n d (0 - e)).2, e) := by
      unfold cellI
      rw [he, if_neg hc]
    rw [ec]
    exact ⟨rfl, (Int.le_ediv_iff_mul_le b0).mpr (by rw [Int.mul_comm]; exact g1), by omega, by omega, by omega⟩
end Z

namespace Z
open L2 PySem PySem.Spec PyProof.Rows
open Evl (Ex ex_l ex_t ex_rd fresh_back)
/-! ### repr -/
mutual
/-- at most so long is its text -/
def szD : Da → Nat
  | .none => 4
  | .bool _ => 5
  | .int _ => 1921
  | .str x => 10 * x.length + 2
  | .list xs => szAll xs + 3
  | .tuple xs => szAll xs + 3
  | .dict _ => 0
def szAll : List Da → Nat
  | [] => 0
  | x :: xs => szD x + 2 + szAll xs
end
theorem strOk_small {x : Str} (h : PyData.strOk x = true) : ∀ c ∈ x.cps.toList, c < 16 ^ 8 := fun c hc => by
  unfold PyData.strOk at h
  rw [Array.all_eq_true_iff_forall_mem] at h
  have h1 := h c (by simpa using hc)
  have h2 : c < 0x110000 := of_decide_eq_true h1
  exact Nat.lt_trans h2 (by decide)
mutual
theorem szD_ok : ∀ d : Da, d.canLay0 = true → d.showable = true → d.shown.length ≤ szD d
  | .none, _, _ => by decide +kernel
  | .bool true, _, _ => by decide +kernel
  | .bool false, _, _ => by decide +kernel
  | .int i, _, h => int_text_len_1921 (of_decide_eq_true (show decide (i.natAbs.log2 < 1920) = true from h))
  | .str x, h, _ => StrLaws.reprText_len x (strOk_small h)
  | .list xs, h, h' => by
    have h1 := szAll_ok xs (by simpa [PyData.canLay0] using h) (by simpa [PyData.showable] using h')
    have h2 := listText_len_le (PyData.shownAll xs)
    show (listText (PyData.shownAll xs)).length ≤ szAll xs + 3
    omega
  | .tuple xs, h, h' => by
    have h1 := szAll_ok xs (by simpa [PyData.canLay0] using h) (by simpa [PyData.showable] using h')
    have h2 := tupleText_len_le (PyData.shownAll xs)
    show (tupleText (PyData.shownAll xs)).length ≤ szAll xs + 3
    omega
  | .dict _, h, _ => by simp [PyData.canLay0] at h
theorem szAll_ok : ∀ xs : List Da, PyData.canLayAll0 xs = true → PyData.showableAll xs = true → ((PyData.shownAll xs).map (·.length)).sum + 2 * (PyData.shownAll xs).length ≤ szAll xs
  | [], _, _ => by simp [PyData.shownAll, szAll]
  | x :: xs, h, h' => by
    have q : x.canLay0 = true ∧ PyData.canLayAll0 xs = true := by simpa [PyData.canLayAll0] using h
    have q' : x.showable = true ∧ PyData.showableAll xs = true := by simpa [PyData.showableAll] using h'
    have h1 := szD_ok x q.1 q'.1
    have h2 := szAll_ok xs q.2 q'.2
    simp only [PyData.shownAll, szAll, List.map_cons, List.sum_cons, List.length_cons]
    omega
end
/-- may be shown -/
def Sh (d : Da) : Prop := d.canLay0 = true ∧ d.showable = true ∧ d.depth ≤ 60 ∧ szD d ≤ 16000000
def cRepr : CF := fun rs post => match rs with
  | [.val d] => Sh d ∧ post (.str d.shown)
  | _ => False
theorem Sh.len {d : Da} (h : Sh d) : d.shown.length ≤ sizeLine := Nat.le_trans (szD_ok d h.1 h.2.1) (Nat.le_trans h.2.2.2 (by decide))
section
variable {X : Cx}
theorem call_reprD (hu : X.A.units + 64 < cLine) (hg : X.A.guards = some []) : CallR X (.builtin "repr") (fun xs H Q => ∃ x d, xs = [x] ∧ Dp X.K H x d ∧ Sh d ∧ Q (.str d.shown) H) := by
  intro pins s σ H xs us Q I r h
  obtain ⟨x, d, rfl, hd, hs, q⟩ := h
  obtain ⟨u, rfl, ru⟩ := r.one
  obtain ⟨as, rd⟩ := Dp.reads I d x u hd ru
  have hz := hs.len
  cases hd with
  | non => cases ru; exact P.repr_of_none ⟨.str _, H, I.tok _, ⟨_, rfl⟩, q⟩
  | bl b => cases ru; exact P.repr_of_bool ⟨.str _, H, I.tok _, ⟨_, rfl⟩, q⟩
  | int i =>
    obtain ⟨t, rfl⟩ := ru
    exact P.repr_of_int (of_decide_eq_true (show decide (i.natAbs.log2 < 1920) = true from hs.2.1)) ⟨.str _, H, I.tok _, ⟨_, rfl⟩, q⟩
  | str z =>
    obtain ⟨t, rfl⟩ := ru
    exact P.repr_of_str ⟨.str _, H, I.tok _, ⟨_, rfl⟩, q⟩ hz
  | lst sq ha =>
    cases ru
    refine repr_of_reads' rd hs.2.1 (fun z => ?_) hg (by have := hs.2.2.1; omega) (fun _ _ e => e) (fun h' u tk hk => ⟨.str _, H, I.kept hk, ⟨_, rfl⟩, q⟩) hz
    rw [PyData.hasDict_of_canLay _ hs.1] at z; cases z
  | tup sq ha =>
    cases ru
    refine repr_of_reads' rd hs.2.1 (fun z => ?_) hg (by have := hs.2.2.1; omega) (fun _ _ e => e) (fun h' u tk hk => ⟨.str _, H, I.kept hk, ⟨_, rfl⟩, q⟩) hz
    rw [PyData.hasDict_of_canLay _ hs.1] at z; cases z
theorem ok_repr {K : Fg} : CallOk K (fun xs H Q => ∃ x d, xs = [x] ∧ Dp K H x d ∧ Sh d ∧ Q (.str d.shown) H) cRepr := fun F H a fu vs rs post Q e t hf k => by
  unfold cRepr at hf
  split at hf
  · rename_i d
    obtain ⟨v, rfl, r⟩ := t.v1
    exact ⟨v, d, rfl, r.dp e d v hf.1.1, hf.1, k _ _ H F hf.2 (Gr.refl e) (.str _)⟩
  · exact hf.elim
variable {p pos : Pos} {e : Expr} {tr : DA} {k : Nat}
theorem e_repr (hr : Room k X.A) (hgd : X.A.guards = some []) (hg : Gl X "repr") (hm : X.mg "repr" = none) (ha : PA X [e] (upA X.K tr)) (he : starEach [e] X.env = (false, eval e X.env) :: starEach [] X.env := by rfl) : PE X (.Call (.Name "repr" p) [e] [] pos) (up X.K (dCB cRepr tr)) :=
  e_callB (call_reprD hr.units hgd) ok_repr hg hm (by decide +kernel) ha (by decide) (by decide) he rfl
end
/-! ### calls by keywords alone -/
def pick {α : Type} (perm : List Nat) (ws : List α) : List α := perm.filterMap fun i => ws[i]?
theorem Vals.pick {zs : List V} {ws : List Value} (h : Vals zs ws) : ∀ perm : List Nat, Vals (pick perm zs) (pick perm ws)
  | [] => .nil
  | i :: perm => by
    have ih := Vals.pick h perm
    unfold Z.pick at ih ⊢
    rw [List.filterMap_cons, List.filterMap_cons]
    cases q : zs[i]? with
    | none =>
      rw [Vals.none_of h q]
      exact ih
    | some x =>
      obtain ⟨u, h1, h2⟩ := Vals.get h q
      rw [h1]
      exact .cons h2 ih
theorem Tm.pick {K : Fg} {F : Hp} {a : Addr} {fu : Option Nat} {vs : List V} {rs : List Rv} (h : Tm K F a fu vs rs) : ∀ perm : List Nat, Tm K F a fu (pick perm vs) (pick perm rs)
  | [] => .nil
  | i :: perm => by
    have ih := Tm.pick h perm
    unfold Z.pick at ih ⊢
    rw [List.filterMap_cons, List.filterMap_cons]
    cases q : rs[i]? with
    | none =>
      have : vs[i]? = none := by
        have hl := h.len
        rw [List.getElem?_eq_none_iff] at q ⊢
        omega
      rw [this]
      exact ih
    | some x =>
      obtain ⟨u, h1, h2⟩ := h.get q
      rw [h1]
      exact .cons h2 ih
def KB (fd : FuncData) (ps ks : List Str) (perm : List Nat) : Prop := ∀ (s : Shared) (ws : List Value), ws.length = ks.length → BindsTo s fd ⟨[], ks.zip ws⟩ (ps.zip (pick perm ws))
theorem kb_of {K : Fg} {x qual : Str} {st : Stmt} {f : Addr} {fd : FuncData} {ps ks : List Str} {perm : List Nat} (Fu : Fun K x qual st f fd)
    (h : ∀ (kV doc pm : Value) (an : Option Addr) (cdv ct : Value) (ws : List Value), ws.length = ks.length → bindArgs (PySem.W.fnOf x qual (defArgs st) (defBody st) (defScope st) .none kV doc pm an cdv ct) ⟨[], ks.zip ws⟩ = pure (ps.zip (pick perm ws))) : KB fd ps ks perm := by
  obtain ⟨oc, od, kV, doc, pm, an, cdv, ct, osl, rfl, lk, hcd⟩ := Fu.ex
  exact fun s ws hl => .of_eq (h kV doc pm an cdv ct ws hl)
def dCallK (np nk : Nat) (perm : List Nat) (fs : FSp) (ta : DA) : DE := fun g Q => ta g fun rs g1 => rs.length = nk ∧ (pick perm rs).length = np ∧ hasSrc (pick perm rs) = false ∧ fs (pick perm rs) none fun r _ => Q (rrv r) g1
section
variable {X : Cx} {CX : CXT} {k : Nat} {f : Addr} {fd : FuncData} {ps ks : List Str} {fs : FSp} {E : XK} {x : Str} {p pos kpos : Pos} {e : Expr} {kws : List Keyword} {te : DE} {tr : DA} {nm : Option Str} {np : Nat} {perm : List Nat}
theorem k_nil : PK X [] (upA X.K dNil) := ⟨fun pos pins s σ H Q I q => by
  obtain ⟨c, g, tv, tr, F, ad, post, st, t, k⟩ := q
  exact pk_nil.run pos pins s σ H Q I (k [] g [] H F ad t st rfl)⟩
theorem k_cons (h : PE X e (up X.K te)) (hr : PK X kws (upA X.K tr)) : PK X (⟨nm, e, kpos⟩ :: kws) (upA X.K (dCons te tr)) := ⟨fun pos pins s σ H Q I q => by
  refine (pk_cons (nm := nm) (kpos := kpos) h hr).run pos pins s σ H Q I ?_
  obtain ⟨c, g, tv, tr, F, ad, post, s, t, k⟩ := q
  refine ⟨c, g, tv, tr, F, ad, _, s, t, fun x g1 v1 H1 F1 a1 t1 s1 => ?_⟩
  refine ⟨c, g1, _, _, F1, a1, _, s1, t1, fun xs g2 vs H2 F2 a2 t2 s2 hl => ?_⟩
  refine k (x :: xs) g2 (v1 :: vs) H2 F2 a2 t2 ?_ (by simp [hl])
  rw [List.reverse_cons, List.reverse_cons, List.append_assoc, List.append_assoc]
  exact s2⟩
theorem e_callK (G : Fn X.prog X.w X.K X.mg X.base CX k f fd ps (lift X.K np fs)) (hr : Room k X.A) (hgd : X.A.guards = some []) (hg : Gl X x) (hm : X.mg x = some (.ref f)) (hk : PySem.W.keepIn X.K (.ref f) = true) (hb : KB fd ps ks perm) (hx : Passes CX X E)
    (hkw : PK X kws (upA X.K tr)) (hall : (backToKw pos (keywordEach kws X.env)).all (·.1.isSome) = true := by rfl) (hks : (backToKw pos (keywordEach kws X.env)).filterMap (·.1) = ks := by rfl) (hdb : (x == ("__debug__" : Str)) = false := by decide)
    (hpl : ((backTo pos (starEach [] X.env)).any (·.1) || (backToKw pos (keywordEach kws X.env)).any (·.1.isNone)) = false := by rfl) : PE X (.Call (.Name x p) [] kws pos) (up X.K (dCallK np ks.length perm fs tr)) := by
  refine ⟨fun pins s σ H Q I q => ?_⟩
  refine wpAny_Call_Name_kw (ld_glob I hg hm ?_ hdb)
  refine PySem.W.callWith_KW0 (h₀ := X.base) I.ok.mod.kin hk hall (thn (hkw.run pos pins s σ H (fun vs H1 => vs.length = ks.length ∧ lift X.K np fs (pick perm vs) H1 Q E) I ?_) fun us s1 ⟨vs, H1, I1, r, hn, q1⟩ => ⟨I1.kIn, ?_⟩) hpl
  · obtain ⟨c, g, tv, tr, F, ad, post, s, t, k⟩ := q
    refine ⟨c, g, tv, tr, F, ad, _, s, t, fun rs g1 vs H1 F1 a1 t1 s1 hl => ?_⟩
    obtain ⟨hk, hn, hs, t1⟩ := t1
    obtain ⟨m1, m2⟩ := s1.tmp.args hl
    have s2 := s1.pop m2
    have mp := m1.pick perm
    refine ⟨by rw [hl]; exact hk, F1, a1, _, none, _, s1.eh, mp.noSrc hs, by rw [mp.len]; exact hn, fun n h => by (cases h), t1, fun r fu' v H' F' hp o => ?_⟩
    have s3 := s2.after0 o
    cases r with
    | val d => exact k _ _ v H' F' a1 hp (s3.push (r := .val d) o.rep)
    | own ds =>
      obtain ⟨F'', s4⟩ := s3.still (NewL.of s2 rfl id o.rep)
      exact k _ _ v H' F'' a1 hp s4
  · rw [hks]
    refine wpAny_call (codeAny_mono (fn_run G hr hgd hx I1 (hb s1 us (by rw [← r.length]; exact hn)) (Vals.pick r perm) q1) fun r s' hq => ?_)
    match r, hq with
    | .error e, hq => exact hq
    | .ok (.ret u), hq => exact hq
    | .ok .next, hq => exact hq.elim
    | .ok .brk, hq => exact hq.elim
    | .ok .cont, hq => exact hq.elim
end
end Z

namespace Z
open L2 PySem PySem.Spec PyProof.Rows
open Evl (Ex ex_l ex_t ex_rd fresh_back)
/-! ### what is shown may be compared -/
def Cps (x : Str) : Prop := ∀ c ∈ x.cps.toList, c < 0x110000
theorem cps_ok {x : Str} : PyData.strOk x = true ↔ Cps x := by
  unfold PyData.strOk Cps
  rw [Array.all_eq_true_iff_forall_mem]
  simp
theorem cps_of (s : String) : Cps (Str.ofString s) := by
  rw [Str.ofString_eq_toList]
  intro c hc
  simp only [List.mem_map] at hc
  obtain ⟨ch, _, rfl⟩ := hc
  have := ch.valid
  show ch.val.toNat < _
  rcases this with h | h
  · exact Nat.lt_trans h (by decide)
  · exact h.2
theorem cps_app {x y : Str} (hx : Cps x) (hy : Cps y) : Cps (x ++ y) := by
  intro c hc
  have : c ∈ (x.cps ++ y.cps).toList := hc
  rw [Array.toList_append, List.mem_append] at this
  exact this.elim (hx c) (hy c)
theorem cps_char {q c : Nat} (hq : q < 0x110000) (hc : c < 0x110000) : ∀ k ∈ Builtin.Str.reprChar q c, k < 0x110000 := by
  have hh : ∀ (w : Nat), ∀ k ∈ List.replicate (w - ((Nat.toDigits 16 c).map Char.toNat).length) 48 ++ (Nat.toDigits 16 c).map Char.toNat, k < 0x110000 := fun w k hk => by
    rw [List.mem_append] at hk
    rcases hk with h | h
    · have := (List.mem_replicate.mp h).2; omega
    · obtain ⟨ch, _, rfl⟩ := List.mem_map.mp h
      have := ch.valid
      show ch.val.toNat < _
      rcases this with h | h
      · exact Nat.lt_trans h (by decide)
      · exact h.2
  intro k hk
  unfold Builtin.Str.reprChar at hk
  dsimp only at hk
  repeat' split at hk
  all_goals first
    | (simp only [List.mem_append, List.mem_cons, List.not_mem_nil, or_false] at hk; omega)
    | (rw [List.mem_append] at hk
       rcases hk with h | h
       · (simp only [List.mem_cons, List.not_mem_nil, or_false] at h; omega)
       · exact hh _ k h)
theorem cps_fold {q : Nat} (hq : q < 0x110000) : ∀ (l : List Nat) (acc : Array Nat), (∀ c ∈ l, c < 0x110000) → (∀ c ∈ acc.toList, c < 0x110000) → ∀ c ∈ (l.foldl (fun out c => out ++ (Builtin.Str.reprChar q c).toArray) acc).toList, c < 0x110000
  | [], _, _, ha => ha
  | x :: l, acc, hl, ha => by
    rw [List.foldl_cons]
    refine cps_fold hq l _ (fun c hc => hl c (List.mem_cons_of_mem _ hc)) fun c hc => ?_
    rw [Array.toList_append, List.mem_append] at hc
    rcases hc with h | h
    · exact ha c h
    · exact cps_char hq (hl x List.mem_cons_self) c (by simpa using h)
theorem cps_repr {x : Str} (h : Cps x) : Cps (reprText x) := by
  have hq : reprQuote x < 0x110000 := by unfold reprQuote; split <;> decide
  intro c hc
  unfold reprText at hc
  rw [Array.toList_push, List.mem_append, ← Array.foldl_toList] at hc
  rcases hc with hc | hc
  · refine cps_fold hq _ _ h (fun d hd => ?_) c hc
    have : d = reprQuote x := by simpa using hd
    omega
  · have : c = reprQuote x := by simpa using hc
    omega
theorem cps_text : ∀ (ts : List Str) (k : Nat) (acc : Str), Cps acc → (∀ t ∈ ts, Cps t) → Cps (textFrom k acc ts)
  | [], _, _, ha, _ => ha
  | t :: ts, k, acc, ha, h => cps_text ts (k + 1) _ (cps_app (cps_app ha (cps_of _)) (h t List.mem_cons_self)) fun u hu => h u (List.mem_cons_of_mem _ hu)
theorem cps_join {sep : Str} (hs : Cps sep) : ∀ ts : List Str, (∀ t ∈ ts, Cps t) → Cps (Str.join sep ts)
  | [], _ => fun c hc => by simp [Str.join, Str.empty] at hc
  | [x], h => h x List.mem_cons_self
  | x :: y :: r, h => cps_app (cps_app (h x List.mem_cons_self) hs) (cps_join hs (y :: r) fun t ht => h t (List.mem_cons_of_mem _ ht))
mutual
theorem cps_shown : ∀ d : Da, d.canLay0 = true → Cps d.shown
  | .none, _ => cps_of _
  | .bool b, _ => by cases b <;> exact cps_of _
  | .int i, _ => cps_of _
  | .str x, h => cps_repr (cps_ok.mp (by simpa [PyData.canLay0] using h))
  | .list xs, h => cps_app (cps_text _ _ _ (cps_of _) (cps_all xs (by simpa [PyData.canLay0] using h))) (cps_of _)
  | .tuple xs, h => cps_app (cps_app (cps_of _) (cps_join (cps_of _) _ (cps_all xs (by simpa [PyData.canLay0] using h)))) (cps_of _)
  | .dict _, h => by simp [PyData.canLay0] at h
theorem cps_all : ∀ xs : List Da, PyData.canLayAll0 xs = true → ∀ t ∈ PyData.shownAll xs, Cps t
  | [], _, t, ht => by simp [PyData.shownAll] at ht
  | x :: xs, h, t, ht => by
    have q : x.canLay0 = true ∧ PyData.canLayAll0 xs = true := by simpa [PyData.canLayAll0] using h
    rcases List.mem_cons.mp (show t ∈ x.shown :: PyData.shownAll xs from ht) with rfl | ht
    · exact cps_shown x q.1
    · exact cps_all xs q.2 t ht
end
theorem shaped_str {x : Str} (h : Cps x) : SeqAt.shaped (.str x) = true := by
  have h1 : PyData.canLay0 (.str x) = true := cps_ok.mpr h
  unfold SeqAt.shaped
  rw [h1]
  rfl
theorem shaped_strs {x y : Str} (hx : Cps x) (hy : Cps y) : SeqAt.shaped (.list [.str x, .str y]) = true := by
  have h1 : PyData.canLay0 (.list [.str x, .str y]) = true := by
    have a : PyData.strOk x = true := cps_ok.mpr hx
    have b : PyData.strOk y = true := cps_ok.mpr hy
    simp [PyData.canLay0, PyData.canLayAll0, a, b]
  unfold SeqAt.shaped
  rw [h1]
  rfl
theorem eqv_strs (a b c d : Str) : (PyData.list [.str a, .str b]).eqv (.list [.str c, .str d]) = (decide (a = c) && decide (b = d)) := by
  simp [PyData.eqv, PyData.eqvAll]
  by_cases h1 : a = c <;> by_cases h2 : b = d <;> simp [h1, h2]
theorem cps_num (n d : Int) : Cps (PyData.tuple [.int n, .int d]).shown := cps_shown _ rfl
theorem cps_nums (n d m e : Int) : Cps (PyData.tuple [.tuple [.int n, .int d], .tuple [.int m, .int e]]).shown := cps_shown _ rfl
theorem showI {n : Int} (h : Bn 1900 n) : n.natAbs.log2 < 1920 := by
  by_cases h0 : n.natAbs = 0
  · rw [h0]; decide
  · exact (Nat.log2_lt h0).mpr (Nat.lt_trans h.lt (Nat.pow_lt_pow_right (by decide) (by decide)))
theorem Sh.num {n d : Int} (hn : Bn 1900 n) (hd : Bn 1900 d) : Sh (Z.num n d) := by
  refine ⟨rfl, ?_, by show 1 ≤ 60; decide, by show 1921 + 2 + (1921 + 2 + 0) + 3 ≤ 16000000; decide⟩
  have := showI hn
  have := showI hd
  simp [PyData.showable, PyData.showableAll, *]
theorem Sh.nums {n d m e : Int} (hn : Bn 1900 n) (hd : Bn 1900 d) (hm : Bn 1900 m) (he : Bn 1900 e) : Sh (.tuple [Z.num n d, Z.num m e]) := by
  refine ⟨rfl, ?_, by show 2 ≤ 60; decide, by show (1921 + 2 + (1921 + 2 + 0) + 3) + 2 + ((1921 + 2 + (1921 + 2 + 0) + 3) + 2 + 0) + 3 ≤ 16000000; decide⟩
  have := showI hn
  have := showI hd
  have := showI hm
  have := showI he
  simp [PyData.showable, PyData.showableAll, *]
theorem Sh.int {n : Int} (hn : Bn 1900 n) : Sh (.int n) := by
  refine ⟨rfl, ?_, by show 0 ≤ 60; decide, by show 1921 ≤ 16000000; decide⟩
  have := showI hn
  simp [PyData.showable, *]
theorem Sh.none : Sh .none := ⟨rfl, rfl, by decide, by decide⟩
theorem Sh.bool (b : Bool) : Sh (.bool b) := ⟨rfl, rfl, by show 0 ≤ 60; decide, by show 5 ≤ 16000000; decide⟩
theorem pick_0 {α : Type} (a : α) : pick [0] [a] = [a] := rfl
theorem pick_01 {α : Type} (a b : α) : pick [0, 1] [a, b] = [a, b] := rfl
theorem pick_10 {α : Type} (a b : α) : pick [1, 0] [a, b] = [b, a] := rfl
theorem pick_012 {α : Type} (a b c : α) : pick [0, 1, 2] [a, b, c] = [a, b, c] := rfl
theorem pick_021 {α : Type} (a b c : α) : pick [0, 2, 1] [a, b, c] = [a, c, b] := rfl
theorem pick_102 {α : Type} (a b c : α) : pick [1, 0, 2] [a, b, c] = [b, a, c] := rfl
theorem pick_120 {α : Type} (a b c : α) : pick [1, 2, 0] [a, b, c] = [b, c, a] := rfl
theorem pick_201 {α : Type} (a b c : α) : pick [2, 0, 1] [a, b, c] = [c, a, b] := rfl
theorem pick_210 {α : Type} (a b c : α) : pick [2, 1, 0] [a, b, c] = [c, b, a] := rfl
theorem boolsD_true : ∀ ds : List Da, boolsD (ds.map fun _ => .bool true) = some (ds.map fun _ => true)
  | [] => rfl
  | d :: ds => by
    have := boolsD_true ds
    simp [boolsD, this]
theorem rangeD_mem {lo : Int} {n : Nat} {x : Da} (h : x ∈ rangeD lo n) : ∃ i : Int, x = .int i ∧ lo ≤ i ∧ i < lo + n := by
  unfold rangeD at h
  obtain ⟨i, hi, rfl⟩ := List.mem_map.mp h
  have := List.mem_range.mp hi
  exact ⟨_, rfl, by omega, by omega⟩
theorem all_true (ds : List Da) : (ds.map fun _ => true).all id = true := by
  induction ds with
  | nil => rfl
  | cons d ds ih => simpa using ih
/-! ### places of a law's draws -/
theorem low_pos {n d : Int} (hn : 0 < n) (hd : 0 < d) : 0 < (low n d).1 ∧ 0 < (low n d).2 ∧ Int.gcd (low n d).1 (low n d).2 = 1 ∧ (low n d).1 ≤ n ∧ (low n d).2 ≤ d := by
  have g0 := gcd_pos (a := n) hd
  have d1 : (Int.gcd n d : Int) ∣ n := Int.gcd_dvd_left n d
  have d2 : (Int.gcd n d : Int) ∣ d := Int.gcd_dvd_right n d
  refine ⟨Int.ediv_pos_of_pos_of_dvd hn (Int.le_of_lt g0) d1, Int.ediv_pos_of_pos_of_dvd hd (Int.le_of_lt g0) d2, ?_, Int.ediv_le_self _ (Int.le_of_lt hn), Int.ediv_le_self _ (Int.le_of_lt hd)⟩
  show Int.gcd (n / Int.gcd n d) (d / Int.gcd n d) = 1
  exact Int.gcd_ediv_gcd_ediv_gcd (by omega)
end Z

namespace Z
open L2 PySem PySem.Spec PyProof.Rows
theorem bl_le {n : Int} {a : Nat} (h : Bn a n) : bl n ≤ a := by
  unfold bl
  have := bits_lt h
  omega
theorem bl_nn (n : Int) : 0 ≤ bl n := by unfold bl; omega
/-! ### odd parts -/
def oddN (n : Nat) : Nat := if h : n = 0 then 0 else if n % 2 = 0 then oddN (n / 2) else n
termination_by n
decreasing_by omega
theorem oddN_even {n : Nat} (h : 0 < n) (h2 : n % 2 = 0) : oddN n = oddN (n / 2) := by
  rw [oddN]
  rw [dif_neg (by omega), if_pos h2]
theorem oddN_odd {n : Nat} (h2 : n % 2 = 1) : oddN n = n := by
  rw [oddN]
  rw [dif_neg (by omega), if_neg (by omega)]
theorem oddN_spec (n : Nat) : 0 < n → oddN n % 2 = 1 ∧ ∃ b, n = oddN n * 2 ^ b := by
  induction n using Nat.strongRecOn with
  | ind n ih =>
    intro h
    by_cases h2 : n % 2 = 0
    · rw [oddN_even h h2]
      obtain ⟨o, b, e⟩ := ih (n / 2) (by omega) (by omega)
      refine ⟨o, b + 1, ?_⟩
      rw [Nat.pow_succ, ← Nat.mul_assoc, ← e]
      omega
    · rw [oddN_odd (by omega)]
      exact ⟨by omega, 0, by simp⟩
theorem odd_uniq {o p x y : Nat} (ho : o % 2 = 1) (hp : p % 2 = 1) (h : o * 2 ^ x = p * 2 ^ y) : o = p ∧ x = y := by
  induction x generalizing y with
  | zero =>
    cases y with
    | zero => simpa using h
    | succ y =>
      rw [Nat.pow_succ, ← Nat.mul_assoc] at h
      simp at h
      omega
  | succ x ih =>
    cases y with
    | zero =>
      rw [Nat.pow_succ, ← Nat.mul_assoc] at h
      simp at h
      omega
    | succ y =>
      rw [Nat.pow_succ, Nat.pow_succ, ← Nat.mul_assoc, ← Nat.mul_assoc] at h
      have := ih (y := y) (Nat.eq_of_mul_eq_mul_right (by decide) h)
      omega
theorem oddN_is {n o b : Nat} (ho : o % 2 = 1) (h : n = o * 2 ^ b) : oddN n = o := by
  have hn : 0 < n := by rw [h]; exact Nat.mul_pos (by omega) (Nat.pow_pos (by decide))
  obtain ⟨h1, c, h2⟩ := oddN_spec n hn
  exact (odd_uniq h1 ho (h2.symm.trans h)).1
theorem oddN_mul {n : Nat} (h : 0 < n) (k : Nat) : oddN (n * 2 ^ k) = oddN n := by
  obtain ⟨h1, b, e⟩ := oddN_spec n h
  refine oddN_is (b := b + k) h1 ?_
  rw [Nat.pow_add, ← Nat.mul_assoc, ← e]
theorem oddN_pos {n : Nat} (h : 0 < n) : 0 < oddN n := by have := (oddN_spec n h).1; omega
theorem oddN_le {n : Nat} (h : 0 < n) : oddN n ≤ n := by
  obtain ⟨_, b, e⟩ := oddN_spec n h
  have : oddN n * 1 ≤ oddN n * 2 ^ b := Nat.mul_le_mul_left _ (Nat.pow_pos (by decide))
  omega
theorem cop_two {p : Nat} (h : p % 2 = 1) (k : Nat) : Nat.Coprime p (2 ^ k) := by
  refine Nat.Coprime.pow_right k ?_
  have h1 : Nat.gcd p 2 ∣ 2 := Nat.gcd_dvd_right p 2
  have h2 : Nat.gcd p 2 ∣ p := Nat.gcd_dvd_left p 2
  have h3 : Nat.gcd p 2 ≤ 2 := Nat.le_of_dvd (by decide) h1
  have h4 : 0 < Nat.gcd p 2 := Nat.gcd_pos_of_pos_right _ (by decide)
  rcases Nat.lt_or_ge (Nat.gcd p 2) 2 with h5 | h5
  · show Nat.gcd p 2 = 1; omega
  · have h6 : Nat.gcd p 2 = 2 := by omega
    rw [h6] at h2
    omega
theorem oddN_pow2 {d k : Nat} (h : d ∣ 2 ^ k) : oddN d = 1 := by
  have hd : 0 < d := Nat.pos_of_dvd_of_pos h (Nat.pow_pos (by decide))
  obtain ⟨h1, b, e⟩ := oddN_spec d hd
  have : oddN d ∣ 2 ^ k := Nat.dvd_trans ⟨2 ^ b, e⟩ h
  exact Nat.Coprime.eq_one_of_dvd (cop_two h1 k) this
theorem pow2_and {d : Int} (h : 0 < d) : Builtin.bitAnd d (d - 1) = 0 ↔ oddN d.toNat = 1 := by
  have e : Builtin.bitAnd d (d - 1) = ((d.toNat &&& (d.toNat - 1) : Nat) : Int) := by
    unfold Builtin.bitAnd
    rw [decide_eq_true (show 0 ≤ d by omega), decide_eq_true (show 0 ≤ d - 1 by omega)]
    show ((d.toNat &&& (d - 1).toNat : Nat) : Int) = _
    rw [show (d - 1).toNat = d.toNat - 1 by omega]
  rw [e, Int.ofNat_eq_zero, Nat.and_sub_one_eq_zero_iff_isPowerOfTwo (by omega)]
  constructor
  · rintro ⟨k, hk⟩
    rw [hk]
    exact oddN_pow2 (Nat.dvd_refl _)
  · intro h1
    obtain ⟨_, b, e⟩ := oddN_spec d.toNat (by omega)
    rw [h1, Nat.one_mul] at e
    exact ⟨b, e⟩
/-- the least width, as the program gives it -/
def lwI (n d : Int) : Da := if oddN d.toNat = 1 then .int (bl (oddN n.toNat)) else .none
theorem eqv_bb (a b : Bool) : (PyData.bool a).eqv (.bool b) = (a == b) := by cases a <;> cases b <;> rfl
theorem shaped_bool (a : Bool) : SeqAt.shaped (.bool a) = true := rfl
theorem lowZ {x y : Int} (hy : 0 < y) : (low x y).1 = 0 ↔ x = 0 := by
  have g0 := gcd_pos (a := x) hy
  have d1 : (Int.gcd x y : Int) ∣ x := Int.gcd_dvd_left x y
  constructor
  · intro h
    have h' : x / Int.gcd x y = 0 := h
    have := Int.ediv_mul_cancel d1
    rw [h'] at this
    omega
  · rintro rfl
    exact Int.zero_ediv _
theorem bl_le_iff {x : Nat} (hx : 0 < x) {w : Nat} : bl (x : Int) ≤ w ↔ x < 2 ^ w := by
  obtain ⟨m, e, h1, h2⟩ := bl_pos (n := (x : Int)) (by omega)
  have h1' : 2 ^ m ≤ x := by exact_mod_cast h1
  have h2' : x < 2 ^ (m + 1) := by exact_mod_cast h2
  rw [e]
  constructor
  · intro h
    exact Nat.lt_of_lt_of_le h2' (Nat.pow_le_pow_right (by decide) (by omega))
  · intro h
    have := (Nat.pow_lt_pow_iff_right (a := 2) (by decide)).mp (Nat.lt_of_le_of_lt h1' h)
    omega
/-- a rest of zero: only numbers of this width have it -/
theorem rest_zero {n d A B w : Nat} (hn : 0 < n) (hd : 0 < d) (hg : Nat.Coprime n d) (h1 : 2 ^ w ≤ n * 2 ^ A / (d * 2 ^ B)) (h2 : n * 2 ^ A / (d * 2 ^ B) < 2 ^ (w + 1)) :
    n * 2 ^ A % (d * 2 ^ B) = 0 ↔ oddN d = 1 ∧ oddN n < 2 ^ (w + 1) := by
  obtain ⟨o1, b, e1⟩ := oddN_spec n hn
  obtain ⟨o2, a, e2⟩ := oddN_spec d hd
  have hD : 0 < d * 2 ^ B := Nat.mul_pos hd (Nat.pow_pos (by decide))
  constructor
  · intro h
    have hv : d * 2 ^ B ∣ n * 2 ^ A := Nat.dvd_of_mod_eq_zero h
    have hd1 : d ∣ 2 ^ A := Nat.Coprime.dvd_of_dvd_mul_left (Nat.Coprime.symm hg) (Nat.dvd_trans ⟨2 ^ B, rfl⟩ hv)
    have p1 := oddN_pow2 hd1
    refine ⟨p1, ?_⟩
    generalize hk : n * 2 ^ A / (d * 2 ^ B) = k at h1 h2
    have hk0 : 0 < k := Nat.lt_of_lt_of_le (Nat.pow_pos (by decide)) h1
    have e3 : n * 2 ^ A = k * (d * 2 ^ B) := by rw [← hk]; exact (Nat.div_mul_cancel hv).symm
    obtain ⟨o3, c, e4⟩ := oddN_spec k hk0
    have e5 : oddN n * 2 ^ (b + A) = oddN k * 2 ^ (c + (a + B)) := by
      rw [p1, Nat.one_mul] at e2
      rw [Nat.pow_add, ← Nat.mul_assoc, ← e1, Nat.pow_add, ← Nat.mul_assoc, ← e4, Nat.pow_add, ← e2]
      exact e3
    have := (odd_uniq o1 o3 e5).1
    have := oddN_le hk0
    omega
  · rintro ⟨p1, p2⟩
    rw [p1, Nat.one_mul] at e2
    have eN : n * 2 ^ A = oddN n * 2 ^ (b + A) := by rw [Nat.pow_add, ← Nat.mul_assoc, ← e1]
    have eD : d * 2 ^ B = 2 ^ (a + B) := by rw [Nat.pow_add, ← e2]
    rw [eN, eD] at h1 ⊢
    by_cases hc : a + B ≤ b + A
    · refine Nat.mod_eq_zero_of_dvd (Nat.dvd_trans (Nat.pow_dvd_pow 2 hc) ⟨oddN n, Nat.mul_comm _ _⟩)
    · exfalso
      obtain ⟨t, ht⟩ : ∃ t, a + B = t + 1 + (b + A) := ⟨a + B - (b + A) - 1, by omega⟩
      rw [ht, Nat.pow_add 2 (t + 1) (b + A), Nat.mul_comm (2 ^ (t + 1)), Nat.mul_comm (oddN n), Nat.mul_div_mul_left _ _ (Nat.pow_pos (by decide))] at h1
      have h3 := (Nat.le_div_iff_mul_le (Nat.pow_pos (by decide))).mp h1
      have h4 : 2 ^ w * 2 ≤ 2 ^ w * 2 ^ (t + 1) := Nat.mul_le_mul_left _ (by rw [Nat.pow_succ]; have := Nat.pow_pos (n := t) (show 0 < 2 by decide); omega)
      rw [Nat.pow_succ] at p2
      omega
theorem natI {n : Int} (h : 0 < n) : ∃ m : Nat, n = (m : Int) ∧ 0 < m := ⟨n.toNat, by omega, by omega⟩
theorem pos_lw {n d w : Int} (hn : 0 < n) (hd : 0 < d) (hg : Int.gcd n d = 1) (hw : 1 ≤ w) : (posI n d w).1 = 0 ↔ oddN d.toNat = 1 ∧ bl (oddN n.toNat) ≤ w := by
  obtain ⟨c0, c1, c2, _⟩ := cellI_spec hn hd hw
  obtain ⟨a0, b0⟩ := scI_pos (f := 0 - (cellI n d w).2) hn hd
  unfold posI
  rw [lowZ b0]
  generalize (cellI n d w).1 = k at c0 c1 c2 ⊢
  generalize (cellI n d w).2 = e at c0 a0 b0 ⊢
  have e1 : (scI n d (0 - e)).1 - k * (scI n d (0 - e)).2 = (scI n d (0 - e)).1 % (scI n d (0 - e)).2 := by rw [c0, Int.emod_def, Int.mul_comm]
  rw [e1]
  unfold scI at c0 ⊢
  obtain ⟨n', rfl, hn'⟩ := natI hn
  obtain ⟨d', rfl, hd'⟩ := natI hd
  obtain ⟨w', rfl⟩ : ∃ w' : Nat, w = (w' : Int) + 1 := ⟨(w - 1).toNat, by omega⟩
  have ew : ((w' : Int) + 1).toNat = w' + 1 := by omega
  have ew2 : ((w' : Int) + 1 - 1).toNat = w' := by omega
  rw [ew] at c2
  rw [ew2] at c1
  dsimp only at c0 ⊢
  generalize (0 - e).toNat = A at c0 ⊢
  generalize (-(0 - e)).toNat = B at c0 ⊢
  have cast1 : (n' : Int) * 2 ^ A = ((n' * 2 ^ A : Nat) : Int) := by push_cast; rfl
  have cast2 : (d' : Int) * 2 ^ B = ((d' * 2 ^ B : Nat) : Int) := by push_cast; rfl
  rw [cast1, cast2] at c0 ⊢
  rw [← Int.natCast_ediv] at c0
  rw [c0] at c1 c2
  have r := rest_zero (A := A) (B := B) (w := w') hn' hd' (by simpa [Nat.Coprime, Int.gcd] using hg) (by exact_mod_cast c1) (by exact_mod_cast c2)
  rw [← Int.natCast_emod, Int.ofNat_eq_zero, r]
  show _ ↔ oddN d' = 1 ∧ bl (oddN n' : Int) ≤ ((w' + 1 : Nat) : Int)
  rw [bl_le_iff (oddN_pos hn')]
/-! ### times a power of two -/
theorem scl_odd {n d : Nat} (hn : 0 < n) (hd : 0 < d) (hg : Nat.Coprime n d) (A B : Nat) : oddN (n * 2 ^ A / Nat.gcd (n * 2 ^ A) (d * 2 ^ B)) = oddN n ∧ oddN (d * 2 ^ B / Nat.gcd (n * 2 ^ A) (d * 2 ^ B)) = oddN d := by
  have hN : 0 < n * 2 ^ A := Nat.mul_pos hn (Nat.pow_pos (by decide))
  have hD : 0 < d * 2 ^ B := Nat.mul_pos hd (Nat.pow_pos (by decide))
  have hG : 0 < Nat.gcd (n * 2 ^ A) (d * 2 ^ B) := Nat.gcd_pos_of_pos_left _ hN
  obtain ⟨o1, b, e1⟩ := oddN_spec n hn
  obtain ⟨o2, a, e2⟩ := oddN_spec d hd
  -- the divisor is a power of two
  have hv : oddN (Nat.gcd (n * 2 ^ A) (d * 2 ^ B)) = 1 := by
    obtain ⟨o3, c, e3⟩ := oddN_spec _ hG
    generalize hq : oddN (Nat.gcd (n * 2 ^ A) (d * 2 ^ B)) = q at o3 e3
    have hq1 : q ∣ n * 2 ^ A := Nat.dvd_trans ⟨2 ^ c, e3⟩ (Nat.gcd_dvd_left _ _)
    have hq2 : q ∣ d * 2 ^ B := Nat.dvd_trans ⟨2 ^ c, e3⟩ (Nat.gcd_dvd_right _ _)
    have h1 : q ∣ n := (cop_two o3 A).dvd_of_dvd_mul_right hq1
    have h2 : q ∣ d := (cop_two o3 B).dvd_of_dvd_mul_right hq2
    have := Nat.dvd_gcd h1 h2
    rw [show Nat.gcd n d = 1 from hg] at this
    exact Nat.dvd_one.mp this
  obtain ⟨_, c, e3⟩ := oddN_spec _ hG
  rw [hv, Nat.one_mul] at e3
  have f1 := Nat.div_mul_cancel (Nat.gcd_dvd_left (n * 2 ^ A) (d * 2 ^ B))
  have f2 := Nat.div_mul_cancel (Nat.gcd_dvd_right (n * 2 ^ A) (d * 2 ^ B))
  constructor
  · have hp : 0 < n * 2 ^ A / Nat.gcd (n * 2 ^ A) (d * 2 ^ B) := Nat.div_pos (Nat.le_of_dvd hN (Nat.gcd_dvd_left _ _)) hG
    rw [← oddN_mul hp c, ← e3, f1, oddN_mul hn]
  · have hp : 0 < d * 2 ^ B / Nat.gcd (n * 2 ^ A) (d * 2 ^ B) := Nat.div_pos (Nat.le_of_dvd hD (Nat.gcd_dvd_right _ _)) hG
    rw [← oddN_mul hp c, ← e3, f2, oddN_mul hd]
theorem lw_low {n d e : Int} (hn : 0 < n) (hd : 0 < d) (hg : Int.gcd n d = 1) : lwI (low (scI n d e).1 (scI n d e).2).1 (low (scI n d e).1 (scI n d e).2).2 = lwI n d := by
  obtain ⟨n', rfl, hn'⟩ := natI hn
  obtain ⟨d', rfl, hd'⟩ := natI hd
  unfold low scI lwI
  dsimp only
  generalize e.toNat = A
  generalize (-e).toNat = B
  have cast1 : (n' : Int) * 2 ^ A = ((n' * 2 ^ A : Nat) : Int) := by push_cast; rfl
  have cast2 : (d' : Int) * 2 ^ B = ((d' * 2 ^ B : Nat) : Int) := by push_cast; rfl
  rw [cast1, cast2, show Int.gcd ((n' * 2 ^ A : Nat) : Int) ((d' * 2 ^ B : Nat) : Int) = Nat.gcd (n' * 2 ^ A) (d' * 2 ^ B) by simp only [Int.gcd, Int.natAbs_natCast], ← Int.natCast_ediv, ← Int.natCast_ediv, Int.toNat_natCast, Int.toNat_natCast, Int.toNat_natCast, Int.toNat_natCast]
  obtain ⟨q1, q2⟩ := scl_odd hn' hd' (by simpa [Nat.Coprime, Int.gcd] using hg) A B
  rw [q1, q2]
end Z

namespace Z
open L2 PySem PySem.Spec PyProof.Rows
open Evl (Ex ex_l ex_t ex_rd fresh_back)
/-! ### reversed -/
theorem rev_get {α : Type} {ds : List α} {i : Nat} (hi : i < ds.length) : ds.reverse[i]? = ds[ds.length - 1 - i]? := by
  rw [List.getElem?_reverse hi]
theorem walkD_rev {K : Fg} {p : Addr} {ds : List Da} {n : Nat} (hn : n = ds.length) : WalkD K (Itv K p n) ds.reverse [.ref p] [.val (.list ds)] := by
  subst hn
  have get : ∀ {F H : Hp} {a : Addr} {fu : Option Nat}, Ex F H → Tm K F a fu [.ref p] [.val (.list ds)] → ∃ xs, SqL K H p xs ∧ Rps K F xs ds := fun {F H a fu} e t => by
    cases t with
    | cons h _ =>
      have h' : Rp K F (.ref p) (.list ds) := h
      cases h' with
      | lst sq m => exact ⟨_, .inl (.inl (e _ _ sq)), m⟩
  refine ⟨fun i F H a fu e t hi => ?_, fun F H a fu e t => ?_, fun i F H a fu x H' e t hi y => ?_⟩
  · rw [List.length_reverse] at hi
    obtain ⟨xs, sq, m⟩ := get e t
    obtain ⟨v, h1, _⟩ := m.get (List.getElem?_eq_getElem (show ds.length - 1 - i < ds.length by omega))
    exact ⟨hi, xs, v, sq, h1⟩
  · exact Nat.le_of_eq (List.length_reverse ..).symm
  · rw [List.length_reverse] at hi
    obtain ⟨xs, sq, m⟩ := get e t
    have hj : ds.length - 1 - i < ds.length := by omega
    obtain ⟨v, h1, h2⟩ := m.get (List.getElem?_eq_getElem hj)
    obtain ⟨rfl, hx⟩ := y
    rw [hx xs sq] at h1
    cases h1
    exact ⟨F, _, by rw [rev_get hi]; exact List.getElem?_eq_getElem hj, Gr.refl e, h2⟩
theorem walkD_revT {K : Fg} {p : Addr} {ds : List Da} {n : Nat} (hn : n = ds.length) : WalkD K (RT.ItvT K p n) ds.reverse [.ref p] [.val (.tuple ds)] := by
  subst hn
  have get : ∀ {F H : Hp} {a : Addr} {fu : Option Nat}, Ex F H → Tm K F a fu [.ref p] [.val (.tuple ds)] → ∃ xs, SqT K H p xs ∧ Rps K F xs ds := fun {F H a fu} e t => by
    cases t with
    | cons h _ =>
      have h' : Rp K F (.ref p) (.tuple ds) := h
      cases h' with
      | tup sq m => exact ⟨_, ex_t e sq, m⟩
  refine ⟨fun i F H a fu e t hi => ?_, fun F H a fu e t => ?_, fun i F H a fu x H' e t hi y => ?_⟩
  · rw [List.length_reverse] at hi
    obtain ⟨xs, sq, m⟩ := get e t
    obtain ⟨v, h1, _⟩ := m.get (List.getElem?_eq_getElem (show ds.length - 1 - i < ds.length by omega))
    exact ⟨hi, xs, v, sq, h1⟩
  · exact Nat.le_of_eq (List.length_reverse ..).symm
  · rw [List.length_reverse] at hi
    obtain ⟨xs, sq, m⟩ := get e t
    have hj : ds.length - 1 - i < ds.length := by omega
    obtain ⟨v, h1, h2⟩ := m.get (List.getElem?_eq_getElem hj)
    obtain ⟨rfl, hx⟩ := y
    rw [hx xs sq] at h1
    cases h1
    exact ⟨F, _, by rw [rev_get hi]; exact List.getElem?_eq_getElem hj, Gr.refl e, h2⟩
section
variable {X : Cx} {tg e : Expr} {te : DE} {p pos : Pos}
theorem i_rev (hg : Gl X "reversed") (hm : X.mg "reversed" = none) (ha : PE X e (up X.K te)) (hs : starEach [e] X.env = (false, eval e X.env) :: starEach [] X.env := by rfl) : PI X tg (.Call (.Name "reversed" p) [e] [] pos) (upI X.K (dRev te)) :=
  pi_to (RT.pi_revA hg hm ha hs) fun σ H R q => by
  obtain ⟨c, g, tv, tr, F, a, post, s, t, k⟩ := q
  refine ⟨c, g, tv, tr, F, a, _, s, t, fun r g1 v H1 F1 a1 t1 s1 => ?_⟩
  cases r with
  | val d =>
    cases d with
    | list ds =>
      have hr : Rp X.K F1 v (.list ds) := s1.top
      cases hr with
      | lst sq m => exact ⟨_, _, rfl, .inl ⟨.inl (.inl (s1.eh _ _ sq)), k ds.reverse g1 H1 F1 a1 _ [_] [.val (.list ds)] t1 s1 rfl rfl (walkD_rev m.len)⟩⟩
    | tuple ds =>
      have hr : Rp X.K F1 v (.tuple ds) := s1.top
      cases hr with
      | tup sq m => exact ⟨_, _, rfl, .inr ⟨ex_t s1.eh sq, k ds.reverse g1 H1 F1 a1 _ [_] [.val (.tuple ds)] t1 s1 rfl rfl (walkD_revT m.len)⟩⟩
    | _ => exact t1.elim
  | _ => exact t1.elim
end
/-! ### hits -/
/-- the remainder of a * x lies between l and h -/
def Hit (a m l h x : Int) : Prop := l ≤ a * x % m ∧ a * x % m ≤ h
/-- the least int from 0 on that hits -/
def LM (a m l h : Int) : Option Int → Prop
  | some x => 0 ≤ x ∧ Hit a m l h x ∧ ∀ y, 0 ≤ y → Hit a m l h y → x ≤ y
  | none => ∀ y, 0 ≤ y → ¬Hit a m l h y
/-- rounded up -/
def upI' (n d : Int) : Int := -(-n / d)
theorem up_iff {n d x : Int} (hd : 0 < d) : upI' n d ≤ x ↔ n ≤ d * x := by
  unfold upI'
  have h1 := Int.ediv_mul_le (-n) (show d ≠ 0 by omega)
  have h2 := Int.lt_ediv_add_one_mul_self (-n) hd
  generalize -n / d = q at h1 h2 ⊢
  have e1 : (q + 1) * d = q * d + d := by grind
  rw [e1] at h2
  constructor
  · intro h
    have : (-q) * d ≤ x * d := Int.mul_le_mul_of_nonneg_right h (by omega)
    have e2 : (-q) * d = -(q * d) := by grind
    have e3 : x * d = d * x := by grind
    omega
  · intro h
    apply Int.not_lt.mp
    intro hc
    have : (x + 1) * d ≤ (-q) * d := Int.mul_le_mul_of_nonneg_right (by omega) (by omega)
    have e2 : (-q) * d = -(q * d) := by grind
    have e3 : (x + 1) * d = d * x + d := by grind
    omega
theorem up_lt {n d : Int} (hd : 0 < d) : d * (upI' n d - 1) < n ∧ n ≤ d * upI' n d := by
  refine ⟨?_, (up_iff hd).mp (Int.le_refl _)⟩
  apply Int.not_le.mp
  intro h
  have := (up_iff (x := upI' n d - 1) hd).mpr h
  omega
theorem up_eq {n d x : Int} (hd : 0 < d) (h1 : d * (x - 1) < n) (h2 : n ≤ d * x) : upI' n d = x := by
  have a := (up_iff hd).mpr h2
  have b : ¬upI' n d ≤ x - 1 := fun h => absurd ((up_iff hd).mp h) (by omega)
  omega
theorem mod_of {t q r m : Int} (h : t = m * q + r) (h0 : 0 ≤ r) (h1 : r < m) : t % m = r ∧ t / m = q := by
  have hm : 0 < m := by omega
  have e : t % m = r := by
    rw [h, Int.add_comm, Int.add_mul_emod_self_left, Int.emod_eq_of_lt h0 h1]
  refine ⟨e, ?_⟩
  have := Int.mul_ediv_add_emod t m
  rw [e] at this
  have h3 : m * (t / m) = m * q := by omega
  exact Int.eq_of_mul_eq_mul_left (by omega) h3
theorem hit_of {a m l h x y : Int} (h0 : 0 < l) (hm : h < m) (h1 : l ≤ a * x - m * y) (h2 : a * x - m * y ≤ h) : Hit a m l h x := by
  have := (mod_of (t := a * x) (q := y) (r := a * x - m * y) (m := m) (by omega) (by omega) (by omega)).1
  unfold Hit
  rw [this]
  exact ⟨h1, h2⟩
theorem hit_to {a m l h x : Int} (H : Hit a m l h x) : l ≤ a * x - m * (a * x / m) ∧ a * x - m * (a * x / m) ≤ h := by
  have := Int.mul_ediv_add_emod (a * x) m
  unfold Hit at H
  omega
/-- a multiple of the factor lies in the interval -/
theorem lm_found {a m l h : Int} (ha : 0 < a) (h0 : 0 < l) (hm : h < m) (hf : a * upI' l a ≤ h) : LM a m l h (some (upI' l a)) := by
  obtain ⟨u1, u2⟩ := up_lt (n := l) ha
  have x0 : 0 ≤ upI' l a := by
    apply Int.not_lt.mp
    intro hc
    have : a * upI' l a ≤ a * 0 := Int.mul_le_mul_of_nonneg_left (by omega) (by omega)
    omega
  refine ⟨x0, hit_of (y := 0) h0 hm (by omega) (by omega), fun y y0 hy => ?_⟩
  apply Int.not_lt.mp
  intro hc
  have e1 : a * y ≤ a * (upI' l a - 1) := Int.mul_le_mul_of_nonneg_left (by omega) (by omega)
  have e2 : 0 ≤ a * y := Int.mul_nonneg (by omega) y0
  have := hy.1
  rw [Int.emod_eq_of_lt e2 (by omega)] at this
  omega
theorem lm_zero {m l h : Int} (h0 : 0 < l) : LM 0 m l h none := fun y _ hy => by
  have := hy.1
  rw [Int.zero_mul, Int.zero_emod] at this
  omega
/-- no multiple lies in it: what is left for the smaller problem -/
theorem lm_step {a m l h : Int} (ha : 0 < a) (h0 : 0 < l) (hl : l ≤ h) (hm : h < m) (hf : h < a * upI' l a) :
    (0 < -h % a ∧ -h % a ≤ -l % a ∧ -l % a < a) ∧ (∀ r, LM (m % a) a (-h % a) (-l % a) r → LM a m l h (r.map fun y => upI' (l + m * y) a)) := by
  obtain ⟨u1, u2⟩ := up_lt (n := l) ha
  generalize hc : upI' l a = c at u1 u2 hf
  have e1 : a * (c - 1) = a * c - a := by grind
  rw [e1] at u1
  -- the interval, from the multiple above it
  have m1 : -l % a = a * c - l := (mod_of (q := -c) (by grind) (by omega) (by omega)).1
  have m2 : -h % a = a * c - h := (mod_of (q := -c) (by grind) (by omega) (by omega)).1
  rw [m1, m2]
  have b1 : 0 < a * c - h := by omega
  have b2 : a * c - h ≤ a * c - l := by omega
  have b3 : a * c - l < a := by omega
  refine ⟨⟨b1, b2, b3⟩, ?_⟩
  have hm' := Int.mul_ediv_add_emod m a
  generalize hq : m / a = q at hm'
  generalize hk : m % a = k at hm'
  have k0 : 0 ≤ k := by rw [← hk]; exact Int.emod_nonneg _ (by omega)
  -- from a hit of the smaller problem
  have up1 : ∀ y, 0 ≤ y → Hit k a (a * c - h) (a * c - l) y → ∃ x, 0 ≤ x ∧ l ≤ a * x - m * y ∧ a * x - m * y ≤ h := fun y y0 hy => by
    obtain ⟨t1, t2⟩ := hit_to hy
    generalize hu : k * y / a = u at t1 t2
    have u0 : 0 ≤ u := by rw [← hu]; exact Int.ediv_nonneg (Int.mul_nonneg k0 y0) (by omega)
    have q0 : 0 ≤ q := by rw [← hq]; exact Int.ediv_nonneg (by omega) (by omega)
    have c0 : 0 ≤ c := by
      apply Int.not_lt.mp
      intro hc
      have : a * c ≤ a * 0 := Int.mul_le_mul_of_nonneg_left (by omega) (by omega)
      omega
    have x0 : 0 ≤ q * y := Int.mul_nonneg q0 y0
    have ex : a * (u + q * y + c) - m * y = a * u + a * c - k * y := by rw [← hm']; grind
    exact ⟨u + q * y + c, by omega, by omega, by omega⟩
  have down : ∀ x y, l ≤ a * x - m * y → a * x - m * y ≤ h → Hit k a (a * c - h) (a * c - l) y := fun x y t1 t2 => by
    have ex : a * x - m * y = a * (x - q * y) - k * y := by rw [← hm']; grind
    have ez : k * y - a * (x - q * y - c) = k * y - a * (x - q * y) + a * c := by grind
    exact hit_of (y := x - q * y - c) b1 (by omega) (by omega) (by omega)
  intro r hr
  cases r with
  | none =>
    intro x x0 hx
    obtain ⟨t1, t2⟩ := hit_to hx
    by_cases hy : 0 ≤ a * x / m
    · exact hr _ hy (down _ _ t1 t2)
    · exact absurd (Int.ediv_nonneg (Int.mul_nonneg (Int.le_of_lt ha) x0) (by omega)) hy
  | some y =>
    obtain ⟨y0, hy, hmin⟩ := hr
    obtain ⟨x, x0, t1, t2⟩ := up1 y y0 hy
    have ee : upI' (l + m * y) a = x := by
      have e3 : a * (x - 1) = a * x - a := by grind
      exact up_eq ha (by omega) (by omega)
    show LM a m l h (some (upI' (l + m * y) a))
    rw [ee]
    refine ⟨x0, hit_of h0 hm t1 t2, fun x' x0' hx' => ?_⟩
    obtain ⟨s1, s2⟩ := hit_to hx'
    have y0' : 0 ≤ a * x' / m := Int.ediv_nonneg (Int.mul_nonneg (Int.le_of_lt ha) x0') (by omega)
    have hle := hmin _ y0' (down _ _ s1 s2)
    rw [← ee]
    rw [up_iff ha]
    have : m * y ≤ m * (a * x' / m) := Int.mul_le_mul_of_nonneg_left hle (by omega)
    omega
theorem lm_lt {a m l h x : Int} (hm : 0 < m) (H : LM a m l h (some x)) : x < m := by
  obtain ⟨x0, hx, hmin⟩ := H
  apply Int.not_le.mp
  intro hc
  have := hmin (x - m) (by omega) (by
    unfold Hit at hx ⊢
    have e : a * (x - m) = a * x + m * (-a) := by grind
    rw [e, Int.add_mul_emod_self_left]
    exact hx)
  omega
/-- the steps put aside -/
inductive Chn (A M L H : Int) : List (Int × Int × Int) → Int → Int → Int → Int → Prop
  | nil : Chn A M L H [] A M L H
  | snoc {os : List (Int × Int × Int)} {a m l h : Int} (c : Chn A M L H os a m l h) (ha : 0 < a) (hf : h < a * upI' l a) : Chn A M L H (os ++ [(a, m, l)]) (m % a) a (-h % a) (-l % a)
theorem Chn.ok {A M L H : Int} (hA : 0 ≤ A) (hAM : A < M) (hL : 0 < L) (hLH : L ≤ H) (hM : H < M) {os : List (Int × Int × Int)} {a m l h : Int} (c : Chn A M L H os a m l h) : 0 ≤ a ∧ a < m ∧ 0 < l ∧ l ≤ h ∧ h < m ∧ m ≤ M ∧ a * m * 2 ^ os.length ≤ A * M := by
  induction c with
  | nil => exact ⟨hA, hAM, hL, hLH, hM, Int.le_refl _, by simp⟩
  | snoc c ha hf ih =>
    rename_i os a m l h
    obtain ⟨i1, i2, i3, i4, i5, i6, i7⟩ := ih
    obtain ⟨⟨s1, s2, s3⟩, _⟩ := lm_step (m := m) ha i3 i4 i5 hf
    have r0 := Int.emod_nonneg m (show a ≠ 0 by omega)
    have r1 := Int.emod_lt_of_pos m ha
    refine ⟨r0, r1, s1, s2, s3, by omega, ?_⟩
    refine Int.le_trans ?_ i7
    rw [List.length_append, List.length_cons, List.length_nil, Int.pow_succ]
    have q1 := Int.mul_ediv_add_emod m a
    have q2 : 1 ≤ m / a := by
      have := (Int.le_ediv_iff_mul_le ha (a := 1) (b := m)).mpr (by omega)
      exact this
    have q3 : a * 1 ≤ a * (m / a) := Int.mul_le_mul_of_nonneg_left q2 (by omega)
    have q4 : 2 * (m % a) ≤ m := by omega
    have p := pow2_pos os.length
    have e : m % a * a * (2 ^ os.length * 2) = 2 * (m % a) * (a * 2 ^ os.length) := by grind
    have e2 : a * m * 2 ^ os.length = m * (a * 2 ^ os.length) := by grind
    rw [e, e2]
    exact Int.mul_le_mul_of_nonneg_right q4 (Int.mul_nonneg (by omega) (Int.le_of_lt p))
end Z

namespace Z
open L2 PySem PySem.Spec PyProof.Rows
/-! ### sums of floors -/
def sf (d a b : Int) : Nat → Int
  | 0 => 0
  | n + 1 => sf d a b n + (a * (n : Int) + b) / d
theorem tri (n : Nat) : ((n : Int) + 1) * (n : Int) / 2 = (n : Int) * ((n : Int) - 1) / 2 + n := by
  have e : ((n : Int) + 1) * n = (n : Int) * ((n : Int) - 1) + (n : Int) * 2 := by grind
  rw [e, Int.add_mul_ediv_right _ _ (by decide)]
theorem sf_red {d : Int} (hd : 0 < d) (a b : Int) : ∀ n : Nat, sf d a b n = (n : Int) * ((n : Int) - 1) / 2 * (a / d) + (n : Int) * (b / d) + sf d (a % d) (b % d) n
  | 0 => by simp [sf]
  | n + 1 => by
    have ih := sf_red hd a b n
    have h1 := Int.mul_ediv_add_emod a d
    have h2 := Int.mul_ediv_add_emod b d
    have e : (a * (n : Int) + b) / d = (a / d) * n + b / d + (a % d * (n : Int) + b % d) / d := by
      have : a * (n : Int) + b = (a % d * (n : Int) + b % d) + d * ((a / d) * n + b / d) := by
        generalize a / d = x at h1 ⊢
        generalize a % d = y at h1 ⊢
        generalize b / d = z at h2 ⊢
        generalize b % d = w at h2 ⊢
        subst h1; subst h2
        grind
      rw [this, Int.add_mul_ediv_left _ _ (by omega)]
      omega
    show sf d a b n + (a * (n : Int) + b) / d = _ * _ + _ * _ + (sf d (a % d) (b % d) n + (a % d * (n : Int) + b % d) / d)
    rw [ih, e]
    have ec : ((n + 1 : Nat) : Int) = (n : Int) + 1 := by omega
    rw [ec, show (n : Int) + 1 - 1 = n by omega, tri n]
    generalize (n : Int) * ((n : Int) - 1) / 2 = x
    generalize a / d = y
    generalize b / d = z
    grind
theorem sf_front (d a b : Int) : ∀ n : Nat, sf d a b (n + 1) = b / d + sf d a (b + a) n
  | 0 => by simp [sf]
  | n + 1 => by
    have ih := sf_front d a b n
    show sf d a b (n + 1) + (a * ((n + 1 : Nat) : Int) + b) / d = b / d + (sf d a (b + a) n + (a * (n : Int) + (b + a)) / d)
    rw [ih]
    have : a * ((n + 1 : Nat) : Int) + b = a * (n : Int) + (b + a) := by
      rw [show ((n + 1 : Nat) : Int) = (n : Int) + 1 by omega]; grind
    rw [this]
    omega
theorem sf_shift {d : Int} (hd : 0 < d) (a b : Int) : ∀ n : Nat, sf d a (b + d) n = n + sf d a b n
  | 0 => by simp [sf]
  | n + 1 => by
    have ih := sf_shift hd a b n
    show sf d a (b + d) n + (a * (n : Int) + (b + d)) / d = _ + (sf d a b n + (a * (n : Int) + b) / d)
    rw [ih, show a * (n : Int) + (b + d) = (a * (n : Int) + b) + d * 1 by omega, Int.add_mul_ediv_left _ _ (by omega)]
    omega
theorem sf_zero {d b : Int} (h0 : 0 ≤ b) (h : b < d) : ∀ n : Nat, sf d 0 b n = 0
  | 0 => rfl
  | n + 1 => by
    show sf d 0 b n + (0 * (n : Int) + b) / d = 0
    rw [sf_zero h0 h n, Int.zero_mul, Int.zero_add, Int.zero_add, Int.ediv_eq_zero_of_lt h0 h]
/-- the other way round -/
theorem sf_flip {d a b : Int} (hd : 0 < d) (a0 : 0 ≤ a) (a1 : a < d) (b0 : 0 ≤ b) (b1 : b < d) (n : Nat) : sf d a b n = sf a d ((a * n + b) % d) ((a * n + b) / d).toNat := by
  by_cases ha : a = 0
  · subst ha
    rw [sf_zero b0 b1, Int.zero_mul, Int.zero_add, Int.ediv_eq_zero_of_lt b0 b1]
    rfl
  have ha : 0 < a := by omega
  induction n with
  | zero =>
    show (0 : Int) = _
    rw [show a * ((0 : Nat) : Int) + b = b by simp, Int.ediv_eq_zero_of_lt b0 b1]
    rfl
  | succ n ih =>
    show sf d a b n + (a * (n : Int) + b) / d = _
    rw [ih]
    have t0 : 0 ≤ a * (n : Int) + b := Int.add_nonneg (Int.mul_nonneg a0 (by omega)) b0
    have et : a * ((n + 1 : Nat) : Int) + b = a * (n : Int) + b + a := by
      rw [show ((n + 1 : Nat) : Int) = (n : Int) + 1 by omega]; grind
    rw [et]
    generalize a * (n : Int) + b = t at t0
    have h1 := Int.mul_ediv_add_emod t d
    have r0 := Int.emod_nonneg t (show d ≠ 0 by omega)
    have r1 := Int.emod_lt_of_pos t hd
    have q0 : 0 ≤ t / d := Int.ediv_nonneg t0 (by omega)
    generalize t / d = q at h1 q0
    generalize t % d = r at h1 r0 r1
    obtain ⟨N, rfl⟩ := Int.eq_ofNat_of_zero_le q0
    by_cases hc : r + a < d
    · obtain ⟨m1, m2⟩ := mod_of (t := t + a) (q := (N : Int)) (r := r + a) (m := d) (by omega) (by omega) hc
      rw [m1, m2, Int.toNat_natCast, sf_shift ha]
      omega
    · obtain ⟨m1, m2⟩ := mod_of (t := t + a) (q := (N : Int) + 1) (r := r + a - d) (m := d) (by rw [← h1]; grind) (by omega) (by omega)
      rw [m1, m2, Int.toNat_natCast, show ((N : Int) + 1).toNat = N + 1 by omega, sf_front, show r + a - d + d = r + a by omega, sf_shift ha, Int.ediv_eq_zero_of_lt (by omega) (by omega)]
      omega
/-- how many hit -/
def cntH (f m lo hi st : Int) : Nat → Int
  | 0 => 0
  | n + 1 => cntH f m lo hi st n + (if lo ≤ f * (st + n) % m ∧ f * (st + n) % m ≤ hi then 1 else 0)
theorem hits_eq {f m lo hi : Int} (st : Int) (hm : 0 < m) (h0 : 0 ≤ lo) (h1 : lo ≤ hi) (h2 : hi < m) : ∀ n : Nat, sf m f (f * st + m - lo) n - sf m f (f * st + m - hi - 1) n = cntH f m lo hi st n
  | 0 => by simp [sf, cntH]
  | n + 1 => by
    have ih := hits_eq (f := f) st hm h0 h1 h2 n
    show sf m f _ n + (f * (n : Int) + (f * st + m - lo)) / m - (sf m f _ n + (f * (n : Int) + (f * st + m - hi - 1)) / m) = cntH f m lo hi st n + _
    have et : f * (n : Int) + f * st = f * (st + n) := by grind
    generalize ht : f * (st + n) = t at et
    have e1 := Int.mul_ediv_add_emod t m
    have r0 := Int.emod_nonneg t (show m ≠ 0 by omega)
    have r1 := Int.emod_lt_of_pos t hm
    generalize t / m = q at e1
    generalize t % m = r at e1 r0 r1 ⊢
    have eq1 : m * (q + 1) = m * q + m := by grind
    have a1 : (f * (n : Int) + (f * st + m - lo)) / m = q + (if lo ≤ r then 1 else 0) := by
      split
      · exact (mod_of (q := q + 1) (r := r - lo) (m := m) (by omega) (by omega) (by omega)).2
      · rw [Int.add_zero]
        exact (mod_of (q := q) (r := r + m - lo) (m := m) (by omega) (by omega) (by omega)).2
    have a2 : (f * (n : Int) + (f * st + m - hi - 1)) / m = q + (if hi < r then 1 else 0) := by
      split
      · exact (mod_of (q := q + 1) (r := r - hi - 1) (m := m) (by omega) (by omega) (by omega)).2
      · rw [Int.add_zero]
        exact (mod_of (q := q) (r := r + m - hi - 1) (m := m) (by omega) (by omega) (by omega)).2
    rw [a1, a2, ← ih]
    generalize sf m f (f * st + m - lo) n = x
    generalize sf m f (f * st + m - hi - 1) n = y
    by_cases c1 : lo ≤ r <;> by_cases c2 : hi < r
    · rw [if_pos c1, if_pos c2, if_neg (by omega)]; omega
    · rw [if_pos c1, if_neg c2, if_pos (by omega)]; omega
    · omega
    · rw [if_neg c1, if_neg c2, if_neg (by omega)]; omega
/-- the first hit of a range -/
def FH (f m lo hi st sp : Int) : Option Int → Prop
  | some x => st ≤ x ∧ x < sp ∧ Hit f m lo hi x ∧ ∀ y, st ≤ y → y < x → ¬Hit f m lo hi y
  | none => ∀ y, st ≤ y → y < sp → ¬Hit f m lo hi y
theorem hit_shift {f m lo hi st x : Int} (hm : 0 < m) (h0 : 0 ≤ lo) (h1 : lo ≤ hi) (h2 : hi < m) (hn : ¬(lo ≤ f * st % m ∧ f * st % m ≤ hi)) :
    Hit (f % m) m ((lo - f * st % m) % m) ((hi - f * st % m) % m) x ↔ Hit f m lo hi (st + x) := by
  unfold Hit
  have e0 : f % m * x % m = f * x % m := by rw [Int.mul_emod, Int.emod_emod_of_dvd _ (Int.dvd_refl m), ← Int.mul_emod]
  have e1 : f * (st + x) % m = (f * st % m + f * x % m) % m := by rw [show f * (st + x) = f * st + f * x by grind, Int.add_emod]
  rw [e0, e1]
  have a0 := Int.emod_nonneg (f * st) (show m ≠ 0 by omega)
  have a1 := Int.emod_lt_of_pos (f * st) hm
  have b0 := Int.emod_nonneg (f * x) (show m ≠ 0 by omega)
  have b1 := Int.emod_lt_of_pos (f * x) hm
  generalize f * st % m = a at a0 a1 hn ⊢
  generalize f * x % m = b at b0 b1 ⊢
  have es : (a + b) % m = if a + b < m then a + b else a + b - m := by
    split
    · exact Int.emod_eq_of_lt (by omega) (by omega)
    · exact (mod_of (q := 1) (by omega) (by omega) (by omega)).1
  by_cases hc : a < lo
  · rw [Int.emod_eq_of_lt (show 0 ≤ lo - a by omega) (by omega), Int.emod_eq_of_lt (show 0 ≤ hi - a by omega) (by omega), es]
    split <;> omega
  · have x1 : (lo - a) % m = lo - a + m := (mod_of (q := -1) (by omega) (by omega) (by omega)).1
    have x2 : (hi - a) % m = hi - a + m := (mod_of (q := -1) (by omega) (by omega) (by omega)).1
    rw [x1, x2, es]
    split <;> omega
theorem shift_ok {m lo hi a : Int} (hm : 0 < m) (h0 : 0 ≤ lo) (h1 : lo ≤ hi) (h2 : hi < m) (a0 : 0 ≤ a) (a1 : a < m) (hn : ¬(lo ≤ a ∧ a ≤ hi)) : 0 < (lo - a) % m ∧ (lo - a) % m ≤ (hi - a) % m ∧ (hi - a) % m < m := by
  refine ⟨?_, ?_, Int.emod_lt_of_pos _ hm⟩ <;> by_cases hc : a < lo
  · rw [Int.emod_eq_of_lt (show 0 ≤ lo - a by omega) (by omega)]; omega
  · rw [(mod_of (t := lo - a) (q := -1) (r := lo - a + m) (m := m) (by omega) (by omega) (by omega)).1]; omega
  · rw [Int.emod_eq_of_lt (show 0 ≤ lo - a by omega) (by omega), Int.emod_eq_of_lt (show 0 ≤ hi - a by omega) (by omega)]; omega
  · rw [(mod_of (t := lo - a) (q := -1) (r := lo - a + m) (m := m) (by omega) (by omega) (by omega)).1, (mod_of (t := hi - a) (q := -1) (r := hi - a + m) (m := m) (by omega) (by omega) (by omega)).1]; omega
theorem fh_of {f m lo hi st sp : Int} (hm : 0 < m) (h0 : 0 ≤ lo) (h1 : lo ≤ hi) (h2 : hi < m) (hn : ¬(lo ≤ f * st % m ∧ f * st % m ≤ hi)) {r : Option Int} (hr : LM (f % m) m ((lo - f * st % m) % m) ((hi - f * st % m) % m) r) :
    FH f m lo hi st sp (r.bind fun x => if st + x ≥ sp then none else some (st + x)) := by
  cases r with
  | none =>
    intro y y0 _ hy
    refine hr (y - st) (by omega) ((hit_shift hm h0 h1 h2 hn).mpr ?_)
    rw [show st + (y - st) = y by omega]
    exact hy
  | some x =>
    obtain ⟨x0, hx, hmin⟩ := hr
    have hx' := (hit_shift hm h0 h1 h2 hn).mp hx
    have hm' : ∀ y, st ≤ y → Hit f m lo hi y → st + x ≤ y := fun y y0 hy => by
      have := hmin (y - st) (by omega) ((hit_shift hm h0 h1 h2 hn).mpr (by rw [show st + (y - st) = y by omega]; exact hy))
      omega
    show FH f m lo hi st sp (if st + x ≥ sp then none else some (st + x))
    split
    · intro y y0 y1 hy
      have := hm' y y0 hy
      omega
    · exact ⟨by omega, by omega, hx', fun y y0 y1 hy => by have := hm' y y0 hy; omega⟩
theorem fh_now {f m lo hi st sp : Int} (h : lo ≤ f * st % m ∧ f * st % m ≤ hi) : FH f m lo hi st sp (if st < sp then some st else none) := by
  split
  · exact ⟨Int.le_refl _, by omega, h, fun y y0 y1 _ => by omega⟩
  · exact fun y y0 y1 _ => by omega
def optD : Option Int → Da
  | some x => .int x
  | none => .none
end Z

namespace Z
open L2 PySem PySem.Spec PyProof.Rows
/-! ### comprehensions that draw, comprehensions that pick -/
theorem lc_fuel {sl : List (Option Sv)} {i : Nat} {te : DE} (f : Da → Da) (c : Nat) {Q : List Da → Option Nat → Prop} {fu : Nat} : ∀ {ds acc : List Da} {k : Nat}, k = fu + c * ds.length →
    (∀ x ∈ ds, ∀ (m : Nat) (R : Rv → Gs → Prop), (∀ g3 : Gs, g3.fu = some m → R (.val (f x)) g3) → te (Gs.set ⟨sl, some (m + c), false⟩ i (.val x)) R) → acc.length + ds.length ≤ 1000000 → Q (acc ++ ds.map f) (some fu) → lcD sl (dN i) dYes te ds acc (some k) Q
  | [], acc, k, hk, _, _, h => by
    rw [List.map_nil, List.append_nil] at h
    have : k = fu := by simpa using hk
    rw [this]
    exact h
  | x :: xs, acc, k, hk, hs, hl, h => by
    have e : k = (fu + c * xs.length) + c := by rw [hk, List.length_cons, Nat.mul_succ]; omega
    rw [e]
    refine ⟨fun _ => hs x List.mem_cons_self _ _ fun g3 e3 => ⟨?_, ?_⟩, fun z => nomatch z⟩
    · rw [List.length_cons] at hl; omega
    · rw [e3]
      refine lc_fuel f c rfl (fun y hy => hs y (List.mem_cons_of_mem _ hy)) ?_ ?_
      · rw [List.length_cons] at hl
        rw [List.length_append, List.length_cons, List.length_nil]
        omega
      · rw [List.append_assoc]
        exact h
theorem lc_filter {sl : List (Option Sv)} {i : Nat} {tt : DT} {te : DE} (p : Da → Bool) (f : Da → Da) {Q : List Da → Option Nat → Prop} {fu : Option Nat} : ∀ {ds acc : List Da},
    (∀ x ∈ ds, ∀ R : Bool → Gs → Prop, R (p x) (Gs.set ⟨sl, fu, false⟩ i (.val x)) → tt (Gs.set ⟨sl, fu, false⟩ i (.val x)) R) →
    (∀ x ∈ ds, p x = true → ∀ R : Rv → Gs → Prop, (∀ g3 : Gs, g3.fu = fu → R (.val (f x)) g3) → te (Gs.set ⟨sl, fu, false⟩ i (.val x)) R) → acc.length + ds.length ≤ 1000000 → Q (acc ++ (ds.filter p).map f) fu → lcD sl (dN i) tt te ds acc fu Q
  | [], acc, _, _, _, h => by rw [List.filter_nil, List.map_nil, List.append_nil] at h; exact h
  | x :: xs, acc, ht, hs, hl, h => by
    show tt (Gs.set ⟨sl, fu, false⟩ i (.val x)) _
    refine ht x List.mem_cons_self _ ⟨fun hp => hs x List.mem_cons_self hp _ fun g3 e => ⟨?_, ?_⟩, fun hp => ?_⟩
    · rw [List.length_cons] at hl; omega
    · rw [e, fuN_self]
      refine lc_filter p f (fun y hy => ht y (List.mem_cons_of_mem _ hy)) (fun y hy => hs y (List.mem_cons_of_mem _ hy)) ?_ ?_
      · rw [List.length_cons] at hl
        rw [List.length_append, List.length_cons, List.length_nil]
        omega
      · rw [List.filter_cons_of_pos hp, List.map_cons] at h
        rw [List.append_assoc]
        exact h
    · have e : (Gs.set ⟨sl, fu, false⟩ i (.val x)).fu = fu := rfl
      rw [e, fuN_self]
      refine lc_filter p f (fun y hy => ht y (List.mem_cons_of_mem _ hy)) (fun y hy => hs y (List.mem_cons_of_mem _ hy)) ?_ ?_
      · rw [List.length_cons] at hl; omega
      · rw [List.filter_cons_of_neg (by rw [hp]; decide)] at h
        exact h
/-! ### hits by search -/
def hitP (f m lo hi : Int) : Da → Bool
  | .int x => decide (lo ≤ f * x % m ∧ f * x % m ≤ hi)
  | _ => false
theorem rangeD_succ (lo : Int) (n : Nat) : rangeD lo (n + 1) = rangeD lo n ++ [.int (lo + n)] := by
  unfold rangeD
  rw [List.range_succ, List.map_append]
  rfl
theorem cnt_len (f m lo hi st : Int) : ∀ n : Nat, (((rangeD st n).filter (hitP f m lo hi)).length : Int) = cntH f m lo hi st n
  | 0 => rfl
  | n + 1 => by
    have ih := cnt_len f m lo hi st n
    rw [rangeD_succ, List.filter_append, List.length_append]
    show _ = cntH f m lo hi st n + (if lo ≤ f * (st + n) % m ∧ f * (st + n) % m ≤ hi then 1 else 0)
    rw [← ih]
    by_cases h : lo ≤ f * (st + n) % m ∧ f * (st + n) % m ≤ hi
    · rw [if_pos h, List.filter_cons_of_pos (show hitP f m lo hi (.int (st + n)) = true from decide_eq_true h)]
      simp
    · rw [if_neg h, List.filter_cons_of_neg (show ¬hitP f m lo hi (.int (st + n)) = true from fun z => h (of_decide_eq_true z))]
      simp
def headD : List Da → Da
  | [] => .none
  | x :: _ => x
theorem search (f m lo hi st : Int) : ∀ n : Nat, ((rangeD st n).filter (hitP f m lo hi) = [] ∧ ∀ y, st ≤ y → y < st + n → ¬Hit f m lo hi y) ∨
    ∃ z r, (rangeD st n).filter (hitP f m lo hi) = .int z :: r ∧ st ≤ z ∧ z < st + n ∧ Hit f m lo hi z ∧ ∀ y, st ≤ y → y < z → ¬Hit f m lo hi y
  | 0 => .inl ⟨rfl, fun y h1 h2 => by omega⟩
  | n + 1 => by
    rw [rangeD_succ, List.filter_append]
    rcases search f m lo hi st n with ⟨e, h⟩ | ⟨z, r, e, h1, h2, h3, h4⟩
    · rw [e, List.nil_append]
      by_cases hc : lo ≤ f * (st + n) % m ∧ f * (st + n) % m ≤ hi
      · refine .inr ⟨st + n, [], ?_, by omega, by omega, hc, fun y y0 y1 => h y y0 y1⟩
        rw [List.filter_cons_of_pos (show hitP f m lo hi (.int (st + n)) = true from decide_eq_true hc)]
        rfl
      · refine .inl ⟨?_, fun y y0 y1 => ?_⟩
        · rw [List.filter_cons_of_neg (show ¬hitP f m lo hi (.int (st + n)) = true from fun z => hc (of_decide_eq_true z))]
          rfl
        · by_cases hy : y = st + n
          · subst hy; exact hc
          · exact h y y0 (by omega)
    · exact .inr ⟨z, r ++ _, by rw [e]; rfl, h1, by omega, h3, h4⟩
/-- what the program finds is what a search finds -/
theorem fh_search {f m lo hi st sp : Int} {r : Option Int} (h : FH f m lo hi st sp r) : optD r = headD ((rangeD st (sp - st).toNat).filter (hitP f m lo hi)) := by
  rcases search f m lo hi st (sp - st).toNat with ⟨e, hn⟩ | ⟨z, q, e, h1, h2, h3, h4⟩
  · rw [e]
    cases r with
    | none => rfl
    | some x => exact absurd h.2.2.1 (hn x h.1 (by have := h.1; have := h.2.1; omega))
  · rw [e]
    cases r with
    | none => exact absurd h3 (h z h1 (by omega))
    | some x =>
      have a : ¬z < x := fun c => h.2.2.2 z h1 c h3
      have b : ¬x < z := fun c => h4 x h.1 c h.2.2.1
      show PyData.int x = .int z
      rw [show x = z by omega]
theorem ints_lay : ∀ ds : List Da, (∀ x ∈ ds, ∃ i : Int, x = .int i) → PyData.canLayAll0 ds = true ∧ PyData.depthAll ds = 0
  | [], _ => ⟨rfl, rfl⟩
  | x :: xs, h => by
    obtain ⟨i, rfl⟩ := h x List.mem_cons_self
    obtain ⟨h1, h2⟩ := ints_lay xs fun y hy => h y (List.mem_cons_of_mem _ hy)
    simp [PyData.canLayAll0, PyData.depthAll, PyData.canLay0, PyData.depth, h1, h2]
theorem shaped_ints {ds : List Da} (h : ∀ x ∈ ds, ∃ i : Int, x = .int i) : SeqAt.shaped (.list ds) = true := by
  obtain ⟨h1, h2⟩ := ints_lay ds h
  simp [SeqAt.shaped, PyData.canLay0, PyData.depth, h1, h2]
theorem eqv_nil (ds : List Da) : (PyData.list ds).eqv (.list []) = ds.isEmpty := by
  cases ds <;> simp [PyData.eqv, PyData.eqvAll]
end Z

namespace Z
open L2 PySem PySem.Spec PyProof.Rows
open Evl (Ex ex_l ex_t ex_rd fresh_back)
/-! ### sum, min, max, sorted of ints; list(..) -/
def intsD : List Da → Option (List Int)
  | [] => some []
  | .int i :: ds => (intsD ds).map (i :: ·)
  | _ => none
theorem ints_v {K : Fg} {F : Hp} : ∀ {vs : List V} {ds : List Da} {ns : List Int}, Rps K F vs ds → intsD ds = some ns → vs = ns.map V.int
  | _, _, _, .nil, h => by cases h; rfl
  | _, d :: ds, ns, .cons r t, h => by
    cases d with
    | int i =>
      unfold intsD at h
      cases q : intsD ds with
      | none => rw [q] at h; cases h
      | some cs =>
        rw [q] at h
        cases h
        cases r
        rw [ints_v t q]
        rfl
    | _ => cases h
theorem intsD_map (ns : List Int) : intsD (ns.map PyData.int) = some ns := by
  induction ns with
  | nil => rfl
  | cons n ns ih => simp [intsD, ih]
theorem ints_rp {K : Fg} {F : Hp} : ∀ ns : List Int, Rps K F (ns.map V.int) (ns.map PyData.int)
  | [] => .nil
  | n :: ns => .cons (.int n) (ints_rp ns)
def cSum : CF := fun rs post => match rs with
  | [.val (.list ds)] => (match intsD ds with | some ns => post (.int ns.sum) | none => False)
  | _ => False
def cMinL : CF := fun rs post => match rs with
  | [.val (.list ds)] => (match intsD ds with | some ns => 0 < ns.length ∧ ∀ m, m ∈ ns → (∀ y, y ∈ ns → m ≤ y) → post (.int m) | none => False)
  | _ => False
def cMaxL : CF := fun rs post => match rs with
  | [.val (.list ds)] => (match intsD ds with | some ns => 0 < ns.length ∧ ∀ m, m ∈ ns → (∀ y, y ∈ ns → y ≤ m) → post (.int m) | none => False)
  | _ => False
def cSorted : CF := fun rs post => match rs with
  | [.val (.list ds)] => (match intsD ds with | some ns => ns.length < 64 ∧ ∀ ns' : List Int, ns'.Perm ns → ns'.Pairwise (· ≤ ·) → post (.list (ns'.map PyData.int)) | none => False)
  | _ => False
def cList : CF := fun rs post => match rs with
  | [.val (.list ds)] => post (.list ds)
  | [.val (.tuple ds)] => post (.list ds)
  | _ => False
section
variable {K : Fg}
theorem ok_sum : CallOk K (rSum K) cSum := fun F H a fu vs rs post Q e t hf k => by
  unfold cSum at hf
  split at hf
  · rename_i ds
    split at hf
    · rename_i ns q
      obtain ⟨v, rfl, r⟩ := t.v1
      cases r with
      | lst sq m =>
        rw [ints_v m q] at sq
        exact ⟨_, ns, rfl, .inl (.inl (e _ _ sq)), k _ _ H F hf (Gr.refl e) (.int _)⟩
    · exact hf.elim
  · exact hf.elim
theorem ok_minL : CallOk K (rMin K) cMinL := fun F H a fu vs rs post Q e t hf k => by
  unfold cMinL at hf
  split at hf
  · rename_i ds
    split at hf
    · rename_i ns q
      obtain ⟨v, rfl, r⟩ := t.v1
      cases r with
      | lst sq m =>
        rw [ints_v m q] at sq
        exact ⟨_, ns, rfl, .inl (.inl (e _ _ sq)), hf.1, fun m h1 h2 => k _ _ H F (hf.2 m h1 h2) (Gr.refl e) (.int _)⟩
    · exact hf.elim
  · exact hf.elim
theorem ok_maxL : CallOk K (rMax K) cMaxL := fun F H a fu vs rs post Q e t hf k => by
  unfold cMaxL at hf
  split at hf
  · rename_i ds
    split at hf
    · rename_i ns q
      obtain ⟨v, rfl, r⟩ := t.v1
      cases r with
      | lst sq m =>
        rw [ints_v m q] at sq
        exact ⟨_, ns, rfl, .inl (.inl (e _ _ sq)), hf.1, fun m h1 h2 => k _ _ H F (hf.2 m h1 h2) (Gr.refl e) (.int _)⟩
    · exact hf.elim
  · exact hf.elim
theorem ok_sorted : CallOk K (rSorted K) cSorted := fun F H a fu vs rs post Q e t hf k => by
  unfold cSorted at hf
  split at hf
  · rename_i ds
    split at hf
    · rename_i ns q
      obtain ⟨v, rfl, r⟩ := t.v1
      cases r with
      | lst sq m =>
        rw [ints_v m q] at sq
        refine ⟨_, ns, rfl, .inl (.inl (e _ _ sq)), hf.1, fun ns' p h1 h2 hp => ?_⟩
        have gr := Gr.new (o := .lst (ns'.map V.int)) e hp
        exact k _ _ _ _ (hf.2 ns' h1 h2) gr (.lst upd_same (ints_rp ns'))
    · exact hf.elim
  · exact hf.elim
theorem ok_list : CallOk K (fun xs H Q => ∃ p ys, xs = [V.ref p] ∧ (SqL K H p ys ∨ SqT K H p ys) ∧ ∀ l, H l = none → Q (.ref l) (upd H l (.lst ys))) cList := fun F H a fu vs rs post Q e t hf k => by
  unfold cList at hf
  split at hf
  · rename_i ds
    obtain ⟨v, rfl, r⟩ := t.v1
    cases r with
    | lst sq m =>
      rename_i pp xs
      refine ⟨_, _, rfl, .inl (.inl (.inl (e _ _ sq))), fun l hl => ?_⟩
      have gr := Gr.new (o := .lst xs) e hl
      exact k _ _ _ _ hf gr (.lst upd_same (m.up gr.f))
  · rename_i ds
    obtain ⟨v, rfl, r⟩ := t.v1
    cases r with
    | tup sq m =>
      rename_i pp xs
      refine ⟨_, _, rfl, .inr (ex_t e sq), fun l hl => ?_⟩
      have gr := Gr.new (o := .lst xs) e hl
      exact k _ _ _ _ hf gr (.lst upd_same (m.up gr.f))
  · exact hf.elim
end
section
variable {X : Cx} {p pos : Pos} {e : Expr} {tr : DA}
theorem e_sum (hc : X.calm = true) (hg : Gl X "sum") (hm : X.mg "sum" = none) (ha : PA X [e] (upA X.K tr)) (he : starEach [e] X.env = (false, eval e X.env) :: starEach [] X.env := by rfl) : PE X (.Call (.Name "sum" p) [e] [] pos) (up X.K (dCB cSum tr)) := e_callB (cr_sum hc) ok_sum hg hm (by decide +kernel) ha (by decide) (by decide) he rfl
theorem e_minL (hc : X.calm = true) (hg : Gl X "min") (hm : X.mg "min" = none) (ha : PA X [e] (upA X.K tr)) (he : starEach [e] X.env = (false, eval e X.env) :: starEach [] X.env := by rfl) : PE X (.Call (.Name "min" p) [e] [] pos) (up X.K (dCB cMinL tr)) := e_callB (cr_min hc) ok_minL hg hm (by decide +kernel) ha (by decide) (by decide) he rfl
theorem e_maxL (hc : X.calm = true) (hg : Gl X "max") (hm : X.mg "max" = none) (ha : PA X [e] (upA X.K tr)) (he : starEach [e] X.env = (false, eval e X.env) :: starEach [] X.env := by rfl) : PE X (.Call (.Name "max" p) [e] [] pos) (up X.K (dCB cMaxL tr)) := e_callB (cr_max hc) ok_maxL hg hm (by decide +kernel) ha (by decide) (by decide) he rfl
theorem e_sorted (hg : Gl X "sorted") (hm : X.mg "sorted" = none) (ha : PA X [e] (upA X.K tr)) (he : starEach [e] X.env = (false, eval e X.env) :: starEach [] X.env := by rfl) : PE X (.Call (.Name "sorted" p) [e] [] pos) (up X.K (dCB cSorted tr)) := e_callB cr_sorted ok_sorted hg hm (by decide +kernel) ha (by decide) (by decide) he rfl
theorem e_list (hg : Gl X "list") (hm : X.mg "list" = none) (ha : PA X [e] (upA X.K tr)) (he : starEach [e] X.env = (false, eval e X.env) :: starEach [] X.env := by rfl) : PE X (.Call (.Name "list" p) [e] [] pos) (up X.K (dCB cList tr)) := e_callTy call_list_of ok_list hg hm (by decide +kernel) ha (by decide) (by decide) he rfl
end
end Z

namespace Z
open L2 PySem PySem.Spec PyProof.Rows
open Evl (Ex ex_l ex_t ex_rd fresh_back)
/-! ### list(range(..)) -/
def dListR (te : DE) : DE := fun g Q => te g fun r g1 => match r with
  | .val (.int j) => (0 ≤ j ∧ j ≤ 16777216) ∧ Q (.val (.list (rangeD 0 j.toNat))) g1
  | _ => False
theorem rg_rp {K : Fg} {F : Hp} (lo : Int) : ∀ ns : List Nat, Rps K F (ns.map fun i => V.int (lo + (i : Nat))) (ns.map fun i => PyData.int (lo + (i : Nat)))
  | [] => .nil
  | n :: ns => .cons (.int _) (rg_rp lo ns)
section
variable {X : Cx} {a : Expr} {te : DE} {p p2 pos pos2 : Pos}
theorem e_listR (hc : X.calm = true) (hg : Gl X "list") (hm : X.mg "list" = none) (hg2 : Gl X "range") (hm2 : X.mg "range" = none) (ha : PE X a (up X.K te)) (n1 : starEach [a] X.env = (false, eval a X.env) :: starEach [] X.env := by rfl)
    (n2 : starEach [.Call (.Name "range" p2) [a] [] pos2] X.env = (false, eval (.Call (.Name "range" p2) [a] [] pos2) X.env) :: starEach [] X.env := by rfl) : PE X (.Call (.Name "list" p) [.Call (.Name "range" p2) [a] [] pos2] [] pos) (up X.K (dListR te)) :=
  pe_to (pe_listRg hc hg hm (prg_1 hg2 hm2 ha n1) n2) fun σ H Q q => by
  obtain ⟨c, g, tv, tr, F, ad, post, s, t, k⟩ := q
  refine ⟨c, g, tv, tr, F, ad, _, s, t, fun r g1 v H1 F1 a1 t1 s1 => ?_⟩
  cases r with
  | val d =>
    cases d with
    | int j =>
      have hr : Rp X.K F1 v (.int j) := s1.top
      cases hr
      obtain ⟨⟨j0, j1⟩, t1⟩ := t1
      refine ⟨j, rfl, RgOk.of_le (by decide) j1 (by decide) j0, fun q hq => ?_⟩
      have gr := Gr.new (o := .lst (rgV 0 j)) s1.eh hq
      refine k _ g1 _ _ _ a1 t1 ((s1.pop1.grow gr).push (r := .val (.list (rangeD 0 j.toNat))) (.lst upd_same ?_))
      unfold rgV rangeD
      rw [Int.sub_zero]
      exact rg_rp 0 _
    | _ => exact t1.elim
  | _ => exact t1.elim
end
/-- a comprehension that draws c times each turn; each element is one of those allowed -/
theorem lc_draw {sl : List (Option Sv)} {i : Nat} {te : DE} (P : Da → Prop) (c : Nat) {Q : List Da → Option Nat → Prop} {fu : Nat} : ∀ {ds acc : List Da} {k : Nat}, k = fu + c * ds.length →
    (∀ x ∈ ds, ∀ (m : Nat) (R : Rv → Gs → Prop), (∀ (z : Da) (g3 : Gs), P z → g3.fu = some m → R (.val z) g3) → te (Gs.set ⟨sl, some (m + c), false⟩ i (.val x)) R) → acc.length + ds.length ≤ 1000000 →
    (∀ zs : List Da, zs.length = ds.length → (∀ z ∈ zs, P z) → Q (acc ++ zs) (some fu)) → lcD sl (dN i) dYes te ds acc (some k) Q
  | [], acc, k, hk, _, _, h => by
    have : k = fu := by simpa using hk
    rw [this]
    have := h [] rfl (fun z hz => by simp at hz)
    rw [List.append_nil] at this
    exact this
  | x :: xs, acc, k, hk, hs, hl, h => by
    have e : k = (fu + c * xs.length) + c := by rw [hk, List.length_cons, Nat.mul_succ]; omega
    rw [e]
    refine ⟨fun _ => hs x List.mem_cons_self _ _ fun z g3 hz e3 => ⟨?_, ?_⟩, fun z => nomatch z⟩
    · rw [List.length_cons] at hl; omega
    · rw [e3]
      refine lc_draw P c rfl (fun y hy => hs y (List.mem_cons_of_mem _ hy)) ?_ fun zs h1 h2 => ?_
      · rw [List.length_cons] at hl
        rw [List.length_append, List.length_cons, List.length_nil]
        omega
      · rw [List.append_assoc]
        refine h (z :: zs) (by simp [h1]) fun y hy => ?_
        rcases List.mem_cons.mp hy with rfl | hy
        · exact hz
        · exact h2 y hy
end Z

namespace Z
open L2 PySem PySem.Spec PyProof.Rows
open Evl (Ex ex_l ex_t ex_rd fresh_back)
/-! ### slices -/
abbrev DO := Gs → (Option Int → Gs → Prop) → Prop
def oNo : DO := fun g Q => Q none g
def oSo (te : DE) : DO := fun g Q => te g fun r g1 => match r with
  | .val (.int i) => Q (some i) g1
  | _ => False
def upO (K : Fg) (t : DO) : TO := fun σ H Q => ∃ c g tv tr F a post, Sta K c g σ H tv tr F a ∧ t g post ∧
  ∀ o g' H' F' a', post o g' → Sta K c g' σ H' tv tr F' a' → Q o H'
def cutD (ds : List Da) (lo hi : Option Int) : List Da := (ds.drop (HT.sIx ds.length 0 lo)).take (HT.sIx ds.length ds.length hi - HT.sIx ds.length 0 lo)
def dSl (ta : DE) (tl th : DO) : DE := fun g Q => ta g fun x g1 => tl g1 fun lo g2 => th g2 fun hi g3 => match x with
  | .val (.list ds) => Q (.val (.list (cutD ds lo hi))) g3
  | .val (.tuple ds) => ¬(HT.sIx ds.length 0 lo = 0 ∧ HT.sIx ds.length ds.length hi = ds.length) ∧ Q (.val (.tuple (cutD ds lo hi))) g3
  | _ => False
theorem Rps.drop {K : Fg} {F : Hp} : ∀ {vs : List V} {ds : List Da} (n : Nat), Rps K F vs ds → Rps K F (vs.drop n) (ds.drop n)
  | _, _, 0, h => h
  | _, _, n + 1, .nil => .nil
  | _, _, n + 1, .cons _ t => Rps.drop n t
theorem Rps.take {K : Fg} {F : Hp} : ∀ {vs : List V} {ds : List Da} (n : Nat), Rps K F vs ds → Rps K F (vs.take n) (ds.take n)
  | _, _, 0, _ => .nil
  | _, _, n + 1, .nil => .nil
  | _, _, n + 1, .cons r t => .cons r (Rps.take n t)
theorem Rps.cut {K : Fg} {F : Hp} {vs : List V} {ds : List Da} (h : Rps K F vs ds) (lo hi : Option Int) : Rps K F (cutV vs lo hi) (cutD ds lo hi) := by
  unfold cutV cutD
  rw [h.len]
  exact (h.drop _).take _
section
variable {X : Cx} {e : Expr} {te : DE}
theorem po_to {o : Option Expr} {t t' : TO} (h : PO X o t) (i : ∀ σ H Q, t' σ H Q → t σ H Q) : PO X o t' := ⟨fun pins s σ H Q I q => h.run pins s σ H Q I (i σ H Q q)⟩
theorem o_none : PO X none (upO X.K oNo) := po_to po_none fun σ H Q q => by
  obtain ⟨c, g, tv, tr, F, ad, post, s, t, k⟩ := q
  exact k none g H F ad t s
theorem o_some (h : PE X e (up X.K te)) : PO X (some e) (upO X.K (oSo te)) := po_to (po_some h) fun σ H Q q => by
  obtain ⟨c, g, tv, tr, F, ad, post, s, t, k⟩ := q
  refine ⟨c, g, tv, tr, F, ad, _, s, t, fun r g1 v H1 F1 a1 t1 s1 => ?_⟩
  cases r with
  | val d =>
    cases d with
    | int i =>
      have hr : Rp X.K F1 v (.int i) := s1.top
      cases hr
      exact ⟨i, rfl, k _ g1 H1 F1 a1 t1 s1.pop1⟩
    | _ => exact t1.elim
  | _ => exact t1.elim
variable {lo hi : Option Expr} {tl th : DO} {ta : DE} {a : Expr} {p2 pos : Pos}
theorem e_sl (ha : PE X a (up X.K ta)) (hl : PO X lo (upO X.K tl)) (hu : PO X hi (upO X.K th)) : PE X (.Subscript a (.Slice lo hi none p2) pos) (up X.K (dSl ta tl th)) := pe_to (pe_slice (sl_list.or sl_tup) ha hl hu) fun σ H Q q => by
  obtain ⟨c, g, tv, tr, F, ad, post, s, t, k⟩ := q
  refine ⟨c, g, tv, tr, F, ad, _, s, t, fun x g1 v1 H1 F1 a1 t1 s1 => ?_⟩
  refine ⟨c, g1, _, _, F1, a1, _, s1, t1, fun l g2 H2 F2 a2 t2 s2 => ?_⟩
  refine ⟨c, g2, _, _, F2, a2, _, s2, t2, fun u g3 H3 F3 a3 t3 s3 => ?_⟩
  cases x with
  | val d =>
    cases d with
    | list ds =>
      have hr : Rp X.K F3 v1 (.list ds) := s3.top
      cases hr with
      | lst sq m =>
        rename_i pp xs
        refine .inl ⟨_, _, rfl, .inl (.inl (s3.eh _ _ sq)), fun q hq => ?_⟩
        have gr := Gr.new (o := .lst (cutV xs l u)) s3.eh hq
        exact k _ g3 _ _ _ a3 t3 ((s3.pop1.grow gr).push (r := .val (.list (cutD ds l u))) (.lst upd_same ((m.cut l u).up gr.f)))
    | tuple ds =>
      have hr : Rp X.K F3 v1 (.tuple ds) := s3.top
      cases hr with
      | tup sq m =>
        rename_i pp xs
        refine .inr ⟨_, _, rfl, ex_t s3.eh sq, by rw [m.len]; exact t3.1, fun q hq => ?_⟩
        have gr := Gr.new (o := .tup (cutV xs l u)) s3.eh hq
        exact k _ g3 _ _ _ a3 t3.2 ((s3.pop1.grow gr).push (r := .val (.tuple (cutD ds l u))) (.tup (.inl (.inl upd_same)) ((m.cut l u).up gr.f)))
    | _ => exact t3.elim
  | _ => exact t3.elim
end
end Z

namespace Z
open L2 PySem PySem.Spec PyProof.Rows
open Evl (Ex ex_l ex_t ex_rd fresh_back)
/-! ### a written dict with the six rules as keys -/
def dBy (tab : Ru → Da) (te : DE) : DE := fun g Q => te g fun r g1 => match r with
  | .val (.str x) => ∃ ru : Ru, x = ru.s ∧ Q (.val (tab ru)) g1
  | _ => False
section
variable {X : Cx} {b : Expr} {te : DE} {p pos : Pos} {x : Str}
theorem e_by {ra : Addr} {tab : Ru → Da} (hg : Gl X x) (hm : X.mg x = some (.ref ra)) (hk : ∀ ru : Ru, ∃ v, KDct X.K X.w ra ru.s v ∧ ∀ F, Rp X.K F v (tab ru)) (hb : PE X b (up X.K te)) (hd : (x == ("__debug__" : Str)) = false := by decide) (hs : PlainIx b := by exact fun _ _ => rfl) :
    PE X (.Subscript (.Name x p) b pos) (up X.K (dBy tab te)) := pe_to (pe_ix ix_kdict (pe_glob hg hm (show RelV (.ref ra) (.ref ra) from rfl) hd) hb hs) fun σ H Q q => by
  obtain ⟨c, g, tv, tr, F, ad, post, s, t, k⟩ := q
  refine ⟨c, g, tv, tr, F, ad, _, s, t, fun r g1 v1 H1 F1 a1 t1 s1 => ?_⟩
  cases r with
  | val d =>
    cases d with
    | str z =>
      have hr : Rp X.K F1 v1 (.str z) := s1.top
      cases hr
      obtain ⟨ru, rfl, t1⟩ := t1
      obtain ⟨v, h1, h2⟩ := hk ru
      exact ⟨ra, ru.s, v, rfl, rfl, h1, k _ g1 v H1 F1 a1 t1 (s1.pop1.push (r := .val (tab ru)) (h2 F1))⟩
    | _ => exact t1.elim
  | _ => exact t1.elim
end
end Z

namespace Z
open L2 PySem PySem.Spec PyProof.Rows
/-! ### what the top holds: dicts by rule, nested tuples -/
theorem kdct_of {K : Fg} {w : World} {a : Addr} {ks : List Str} {x : Str} {u : Value} {v : V} (h : He.dicW K a = some (He.keysIn w.params ks)) (hx : PySem.W.nsIn K a x = some (some u)) (r : RelV v u) : KDct K w a x v := by
  obtain ⟨es, n, hd⟩ := He.dicW_ok h
  exact ⟨es, n, u, hd.1, hd.2, hx, r⟩
end Z

namespace Z
open L2 PySem PySem.Spec PyProof.Rows
open Evl (Ex ex_l ex_t ex_rd fresh_back)
/-! ### sorted of a list of alike data (any kind) -/
def rSortedD (K : Fg) : List V → Hp → VK → Prop := fun vs H Q => ∃ (a : Addr) (bs : List (V × Da)), vs = [V.ref a] ∧ SqL K H a (bs.map Prod.fst) ∧ (∀ b ∈ bs, Dp K H b.1 b.2) ∧ PySem.W.AllAlike (bs.map Prod.snd) ∧ PySem.W.Sortable (bs.map Prod.snd) ∧ (∀ b ∈ bs, b.2.depth ≤ 50) ∧
  ∀ (bs' : List (V × Da)) (p : Addr), bs'.Perm bs → (bs'.map Prod.snd).Pairwise (fun a b => PySem.W.dataLe false id a b = true) → H p = none → Q (.ref p) (upd H p (.lst (bs'.map Prod.fst)))
theorem each_vals : ∀ {bs : List (V × Da)} {its : List Value}, Vals (bs.map Prod.fst) its → PySem.W.EachIs (fun v b => RelV b.1 v) its bs
  | [], _, h => by cases h; exact .nil
  | b :: bs, _, h => by
    cases h with
    | cons h t => exact .cons h (each_vals t)
theorem vals_each : ∀ {bs : List (V × Da)} {its : List Value}, PySem.W.EachIs (fun v b => RelV b.1 v) its bs → Vals (bs.map Prod.fst) its
  | _, _, .nil => .nil
  | _, _, .cons h t => .cons h (vals_each t)
theorem each_and {α β : Type} {R S : α → β → Prop} : ∀ {as : List α} {bs : List β}, PySem.W.EachIs R as bs → (∀ a, ∀ b ∈ bs, R a b → S a b) → PySem.W.EachIs S as bs
  | _, _, .nil, _ => .nil
  | _, _, .cons h t, k => .cons (k _ _ (List.mem_cons_self ..) h) (each_and t fun a b hb => k a b (List.mem_cons_of_mem _ hb))
section
variable {X : Cx}
theorem cr_sortedD (hu : X.A.units + 64 < cLine) : CallR X (.builtin "sorted") (rSortedD X.K) := by
  intro pins s σ H vs us Q I r h
  obtain ⟨a, bs, rfl, hs, hd, ha, hk, hdp, q⟩ := h
  obtain ⟨its, rv, hl, hz⟩ := I.list hs
  rw [Vals.ref1 r]
  have e := each_vals rv
  have er : PySem.W.EachIs (fun v (b : V × Da) => ∃ as, Reads s.heap v b.2 as) its bs := each_and e fun v b hb hr => Dp.reads I b.2 b.1 v (hd b hb) hr
  rw [List.length_map] at hz
  refine PySem.W.sorted_data (enc := Prod.snd) hl.isList e er ha hk hz (fun b hb => by have := hdp b hb; omega) fun out h1 h2 => ?_
  obtain ⟨ep, he'⟩ := PyProof.Rows.sortedAll_at s.heap its out.toArray
  have pm : (bs.mergeSort (PySem.W.dataLe false Prod.snd)).Perm bs := List.mergeSort_perm ..
  have pw : ((bs.mergeSort (PySem.W.dataLe false Prod.snd)).map Prod.snd).Pairwise (fun a b => PySem.W.dataLe false id a b = true) := by
    rw [List.pairwise_map]
    exact PySem.W.sort_pairwise (PySem.W.sortLe_total _ _ _) bs
  have hlen : ((bs.mergeSort (PySem.W.dataLe false Prod.snd)).map Prod.fst).length ≤ sizeLine := by rw [List.length_map, pm.length_eq]; exact hz
  exact ⟨.ref _, upd H (s.heap.objs.size + 1) (.lst ((bs.mergeSort (PySem.W.dataLe false Prod.snd)).map Prod.fst)), I.laid (t' := s.toks) (fun _ _ => PyProof.Rows.sortedAll_old) (Nat.le_succ _) ⟨hlen, out, ep, vals_each h2, he'⟩, rfl, q _ _ pm pw (I.hok.fresh (Nat.le_succ _))⟩
end
def cSortedD : CF := fun rs post => match rs with
  | [.val (.list ds)] => PySem.W.AllAlike ds ∧ PySem.W.Sortable ds ∧ (∀ d ∈ ds, d.canLay0 = true ∧ d.depth ≤ 50) ∧ ∀ ds' : List Da, ds'.Perm ds → ds'.Pairwise (fun a b => PySem.W.dataLe false id a b = true) → post (.list ds')
  | _ => False
theorem rps_zip {K : Fg} {F : Hp} : ∀ {xs : List V} {ds : List Da}, Rps K F xs ds → ∃ bs : List (V × Da), bs.map Prod.fst = xs ∧ bs.map Prod.snd = ds ∧ ∀ b ∈ bs, Rp K F b.1 b.2
  | _, _, .nil => ⟨[], rfl, rfl, fun b hb => nomatch hb⟩
  | _, _, .cons h t => by
    obtain ⟨bs, rfl, rfl, h3⟩ := rps_zip t
    refine ⟨(_, _) :: bs, rfl, rfl, fun b hb => ?_⟩
    rcases List.mem_cons.mp hb with rfl | hb
    · exact h
    · exact h3 b hb
theorem zip_rps {K : Fg} {F : Hp} : ∀ {bs : List (V × Da)}, (∀ b ∈ bs, Rp K F b.1 b.2) → Rps K F (bs.map Prod.fst) (bs.map Prod.snd)
  | [], _ => .nil
  | b :: bs, h => .cons (h b (List.mem_cons_self ..)) (zip_rps fun c hc => h c (List.mem_cons_of_mem _ hc))
theorem ok_sortedD {K : Fg} : CallOk K (rSortedD K) cSortedD := fun F H a fu vs rs post Q e t hf k => by
  unfold cSortedD at hf
  split at hf
  · rename_i ds
    obtain ⟨v, rfl, r⟩ := t.v1
    obtain ⟨h1, h2, h3, h4⟩ := hf
    cases r with
    | lst sq m =>
      obtain ⟨bs, rfl, rfl, hb⟩ := rps_zip m
      refine ⟨_, bs, rfl, .inl (.inl (e _ _ sq)), fun b hm => (hb b hm).dp e _ _ (h3 _ (List.mem_map_of_mem hm)).1, h1, h2, fun b hm => (h3 _ (List.mem_map_of_mem hm)).2, fun bs' p pm pw hp => ?_⟩
      have gr := Gr.new (o := .lst (bs'.map Prod.fst)) e hp
      exact k _ _ _ _ (h4 _ (pm.map _) pw) gr (.lst upd_same ((zip_rps fun b hm => hb b (pm.mem_iff.mp hm)).up gr.f))
  · exact hf.elim
/-- pairs in order: their first ints are -/
theorem le_fst {i j : Int} {x y : Da} (h : PySem.W.dataLe false id (.tuple [.int i, x]) (.tuple [.int j, y]) = true) : i ≤ j := by
  rcases Int.lt_or_le j i with q | q
  · exfalso
    have h' : (!PyProof.Rows.lexLt PyProof.Rows.itemOrd (PySem.W.keyToks (.tuple [.int j, y])) (PySem.W.keyToks (.tuple [.int i, x]))) = true := h
    rw [Bool.not_eq_true'] at h'
    have e : PyProof.Rows.lexLt PyProof.Rows.itemOrd (PySem.W.keyToks (.tuple [.int j, y])) (PySem.W.keyToks (.tuple [.int i, x])) = true := by
      refine PyProof.Rows.lex_true.mpr (.inr ⟨rfl, PyProof.Rows.lex_true.mpr (.inl (decide_eq_true q))⟩)
    rw [e] at h'
    cases h'
  · exact q
section
variable {X : Cx} {p pos : Pos} {e : Expr} {tr : DA} {k : Nat}
theorem e_sortedD (hr : Room k X.A) (hg : Gl X "sorted") (hm : X.mg "sorted" = none) (ha : PA X [e] (upA X.K tr)) (he : starEach [e] X.env = (false, eval e X.env) :: starEach [] X.env := by rfl) : PE X (.Call (.Name "sorted" p) [e] [] pos) (up X.K (dCB cSortedD tr)) := e_callB (cr_sortedD hr.units) ok_sortedD hg hm (by decide +kernel) ha (by decide) (by decide) he rfl
end
end Z

namespace Z
open L2 PySem PySem.Spec PyProof.Rows
open Evl (Ex ex_l ex_t ex_rd fresh_back)
/-! ### thresholds: plain law -/
theorem div_cross {a b a' b' : Int} (hb : 0 < b) (hb' : 0 < b') (h : a * b' = a' * b) : a / b = a' / b' := by
  have e1 : a / b = (a * b') / (b * b') := (Int.mul_ediv_mul_of_pos_left a b hb').symm
  have e2 : a' / b' = (a' * b) / (b' * b) := (Int.mul_ediv_mul_of_pos_left a' b' hb).symm
  rw [e1, e2, h, Int.mul_comm b b']
theorem low_mul {x y c : Int} (hc : 0 < c) : low (x * c) (y * c) = low x y := by
  unfold low
  rw [Int.gcd_mul_right, Int.natCast_mul]
  have e : ((c.natAbs : Nat) : Int) = c := by omega
  rw [e, Int.mul_ediv_mul_of_pos_left _ _ hc, Int.mul_ediv_mul_of_pos_left _ _ hc]
theorem low_cross {x y x' y' : Int} (hy : 0 < y) (hy' : 0 < y') (h : x * y' = x' * y) : low x y = low x' y' := by
  rw [← low_mul (x := x) (y := y) hy', ← low_mul (x := x') (y := y') hy, h, Int.mul_comm y y']
theorem low_self {n d : Int} (h : Int.gcd n d = 1) : low n d = (n, d) := by
  unfold low
  rw [h]
  simp
theorem mod_cross {a b a' b' : Int} (hb : 0 < b) (hb' : 0 < b') (h : a * b' = a' * b) : (a % b) * b' = (a' % b') * b := by
  have e := div_cross hb hb' h
  rw [Int.emod_def, Int.emod_def, ← e, Int.sub_mul, Int.sub_mul, h]
  grind
theorem low_val {x y : Int} (hy : 0 < y) : (low x y).1 * y = x * (low x y).2 := by
  unfold low
  obtain ⟨u, hu⟩ : (Int.gcd x y : Int) ∣ x := Int.gcd_dvd_left x y
  obtain ⟨v, hv⟩ : (Int.gcd x y : Int) ∣ y := Int.gcd_dvd_right x y
  have g0 := gcd_pos (a := x) hy
  generalize (Int.gcd x y : Int) = g at *
  subst hu hv
  rw [Int.mul_ediv_cancel_left _ (by omega), Int.mul_ediv_cancel_left _ (by omega)]
  grind
theorem pow_lt_pow2 {a b : Nat} (h : (2 : Int) ^ a < 2 ^ b) : a < b := by
  by_cases q : a < b
  · exact q
  · have : (2 : Int) ^ b ≤ 2 ^ a := by
      obtain ⟨c, rfl⟩ : ∃ c, a = b + c := ⟨a - b, by omega⟩
      rw [Int.pow_add]
      have h1 := pow2_pos b
      have h2 := pow2_pos c
      have := Int.mul_le_mul_of_nonneg_left (show (1 : Int) ≤ 2 ^ c by omega) (Int.le_of_lt h1)
      omega
    omega
theorem pow_le2 {a b : Nat} (h : a ≤ b) : (2 : Int) ^ a ≤ 2 ^ b := by
  obtain ⟨c, rfl⟩ : ∃ c, b = a + c := ⟨b - a, by omega⟩
  rw [Int.pow_add]
  have h1 := pow2_pos a
  have h2 := pow2_pos c
  have := Int.mul_le_mul_of_nonneg_left (show (1 : Int) ≤ 2 ^ c by omega) (Int.le_of_lt h1)
  omega
/-- a cell told by any exponent p - q -/
theorem cell_at {n d w : Int} (hn : 0 < n) (hd : 0 < d) (hw : 1 ≤ w) {p q : Nat} (h1 : 2 ^ (w - 1).toNat ≤ n * 2 ^ q / (d * 2 ^ p)) (h2 : n * 2 ^ q / (d * 2 ^ p) < 2 ^ w.toNat) :
    cellI n d w = (n * 2 ^ q / (d * 2 ^ p), (p : Int) - q) ∧ posI n d w = low (n * 2 ^ q % (d * 2 ^ p)) (d * 2 ^ p) := by
  obtain ⟨c1, c2, c3, _⟩ := cellI_spec hn hd hw
  have hp : 0 < d * 2 ^ p := Int.mul_pos hd (pow2_pos p)
  generalize hk : (cellI n d w).1 = k at c1 c2 c3
  generalize he : (cellI n d w).2 = e at c1
  unfold scI at c1
  generalize hA : (0 - e).toNat = A at c1
  generalize hB : (-(0 - e)).toNat = B at c1
  have hP : 0 < d * 2 ^ B := Int.mul_pos hd (pow2_pos B)
  replace c1 : k = n * 2 ^ A / (d * 2 ^ B) := c1
  rw [c1] at c2 c3
  have ew : w.toNat = (w - 1).toNat + 1 := by omega
  have x1 := (Int.le_ediv_iff_mul_le hp).mp h1
  have x2 := (Int.ediv_lt_iff_lt_mul hp).mp h2
  have y1 := (Int.le_ediv_iff_mul_le hP).mp c2
  have y2 := (Int.ediv_lt_iff_lt_mul hP).mp c3
  have mono : ∀ {a b : Int} (j : Nat), a ≤ b → a * 2 ^ j ≤ b * 2 ^ j := fun j h => Int.mul_le_mul_of_nonneg_right h (Int.le_of_lt (pow2_pos j))
  have mono' : ∀ {a b : Int} (j : Nat), a < b → a * 2 ^ j < b * 2 ^ j := fun j h => Int.mul_lt_mul_of_pos_right h (pow2_pos j)
  have key : ∀ {s t u v : Nat}, 2 ^ s * (d * 2 ^ t) < 2 ^ u * (d * 2 ^ v) → s + t < u + v := fun {s t u v} h => by
    refine pow_lt_pow2 ?_
    rw [Int.pow_add, Int.pow_add]
    refine Int.lt_of_mul_lt_mul_left (a := d) ?_ (Int.le_of_lt hd)
    grind
  have hpq : B + q = p + A := by
    have z1 : (w - 1).toNat + (p + A) < w.toNat + (B + q) := by
      refine key ?_
      have := mono A x1
      have := mono' q y2
      rw [Int.pow_add, Int.pow_add]
      grind
    have z2 : (w - 1).toNat + (B + q) < w.toNat + (p + A) := by
      refine key ?_
      have := mono q y1
      have := mono' A x2
      rw [Int.pow_add, Int.pow_add]
      grind
    omega
  have hx : n * 2 ^ A * (d * 2 ^ p) = n * 2 ^ q * (d * 2 ^ B) := by
    have : (2 : Int) ^ A * 2 ^ p = 2 ^ q * 2 ^ B := by rw [← Int.pow_add, ← Int.pow_add]; congr 1; omega
    grind
  have e1 := div_cross hP hp hx
  have ec : cellI n d w = (n * 2 ^ q / (d * 2 ^ p), (p : Int) - q) := by
    refine Prod.ext ?_ ?_
    · rw [hk, c1, e1]
    · rw [he]
      show e = (p : Int) - q
      omega
  refine ⟨ec, ?_⟩
  unfold posI
  rw [hk, he]
  unfold scI
  rw [hA, hB, c1]
  show low (n * 2 ^ A - n * 2 ^ A / (d * 2 ^ B) * (d * 2 ^ B)) (d * 2 ^ B) = _
  have em : n * 2 ^ A - n * 2 ^ A / (d * 2 ^ B) * (d * 2 ^ B) = n * 2 ^ A % (d * 2 ^ B) := by
    rw [Int.emod_def]
    grind
  rw [em]
  exact low_cross hP hp (mod_cross hP hp hx)
/-- what a power number is -/
theorem pow_val {k e : Int} {p q : Nat} (he : e = (p : Int) - q) : (powI k e).1 * 2 ^ q = k * 2 ^ p * (powI k e).2 := by
  unfold powI scI
  generalize hA : e.toNat = A
  generalize hB : (-e).toNat = B
  have h := low_val (x := k * 2 ^ A) (y := 1 * 2 ^ B) (Int.mul_pos (by decide) (pow2_pos B))
  show (low (k * 2 ^ A) (1 * 2 ^ B)).1 * 2 ^ q = k * 2 ^ p * (low (k * 2 ^ A) (1 * 2 ^ B)).2
  generalize low (k * 2 ^ A) (1 * 2 ^ B) = y at h ⊢
  have s : (2 : Int) ^ A * 2 ^ q = 2 ^ p * 2 ^ B := by rw [← Int.pow_add, ← Int.pow_add]; congr 1; omega
  refine Int.eq_of_mul_eq_mul_right (a := 2 ^ B) (by have := pow2_pos B; omega) ?_
  calc y.1 * 2 ^ q * 2 ^ B = y.1 * (1 * 2 ^ B) * 2 ^ q := by grind
    _ = k * 2 ^ A * y.2 * 2 ^ q := by rw [h]
    _ = k * y.2 * (2 ^ A * 2 ^ q) := by grind
    _ = k * y.2 * (2 ^ p * 2 ^ B) := by rw [s]
    _ = k * 2 ^ p * y.2 * 2 ^ B := by grind
theorem pow_pos {k e : Int} (hk : 0 < k) : 0 < (powI k e).1 ∧ 0 < (powI k e).2 ∧ Int.gcd (powI k e).1 (powI k e).2 = 1 := by
  unfold powI
  obtain ⟨a, b⟩ := scI_pos (n := k) (d := 1) (f := e) hk (by decide)
  obtain ⟨h1, h2, h3, _⟩ := low_pos a b
  exact ⟨h1, h2, h3⟩
/-- equal in value, both in lowest terms -/
theorem low_uniq {n d n' d' : Int} (hd : 0 < d) (hd' : 0 < d') (hg : Int.gcd n d = 1) (hg' : Int.gcd n' d' = 1) (h : n * d' = n' * d) : (n, d) = (n', d') := by
  rw [← low_self hg, ← low_self hg', low_cross hd hd' h]
theorem pow_is {n d k e : Int} {p q : Nat} (he : e = (p : Int) - q) (hk : 0 < k) (hd : 0 < d) (hg : Int.gcd n d = 1) (h : n * 2 ^ q = k * 2 ^ p * d) : powI k e = (n, d) := by
  obtain ⟨_, h2, h3⟩ := pow_pos (k := k) (e := e) hk
  have hv := pow_val (k := k) he
  refine low_uniq (n := (powI k e).1) (d := (powI k e).2) h2 hd h3 hg ?_
  refine Int.eq_of_mul_eq_mul_right (a := 2 ^ q) (by have := pow2_pos q; omega) ?_
  calc (powI k e).1 * d * 2 ^ q = (powI k e).1 * 2 ^ q * d := by grind
    _ = k * 2 ^ p * (powI k e).2 * d := by rw [hv]
    _ = n * 2 ^ q * (powI k e).2 := by rw [h]; grind
    _ = n * (powI k e).2 * 2 ^ q := by grind
/-- a threshold: a fraction, and to which side it goes there -/
structure Th where
  n : Int
  d : Int
  up : Bool
structure Th.Ok (t : Th) : Prop where
  n0 : 0 ≤ t.n
  nd : t.n ≤ t.d
  d0 : 0 < t.d
  z : t.n = 0 → t.up = false
  o : t.n = t.d → t.up = true
def Abv (x y : Int) (t : Th) : Prop := t.n * y < x * t.d ∨ (t.n * y = x * t.d ∧ t.up = true)
instance (x y : Int) (t : Th) : Decidable (Abv x y t) := by unfold Abv; infer_instance
theorem abv_mul {x y c : Int} {t : Th} (hc : 0 < c) : Abv (x * c) (y * c) t ↔ Abv x y t := by
  unfold Abv
  rw [show t.n * (y * c) = (t.n * y) * c by grind, show x * c * t.d = (x * t.d) * c by grind, Int.mul_lt_mul_right hc, Int.mul_eq_mul_right_iff (by omega)]
theorem abv_low {x y : Int} {t : Th} (hy : 0 < y) : Abv (low x y).1 (low x y).2 t ↔ Abv x y t := by
  obtain ⟨u, hu⟩ : (Int.gcd x y : Int) ∣ x := Int.gcd_dvd_left x y
  obtain ⟨v, hv⟩ : (Int.gcd x y : Int) ∣ y := Int.gcd_dvd_right x y
  have g0 := gcd_pos (a := x) hy
  have e : low x y = (u, v) := by
    unfold low
    refine Prod.ext ?_ ?_
    · show x / (Int.gcd x y : Int) = u
      generalize (Int.gcd x y : Int) = g at *
      rw [hu, Int.mul_ediv_cancel_left _ (by omega)]
    · show y / (Int.gcd x y : Int) = v
      generalize (Int.gcd x y : Int) = g at *
      rw [hv, Int.mul_ediv_cancel_left _ (by omega)]
  rw [e]
  show Abv u v t ↔ _
  generalize (Int.gcd x y : Int) = g at *
  rw [hu, hv, Int.mul_comm g u, Int.mul_comm g v]
  exact (abv_mul g0).symm
/-- the same fraction, not in lowest terms -/
theorem abv_th {x y n d : Int} {up : Bool} (hd : 0 < d) : Abv x y ⟨(low n d).1, (low n d).2, up⟩ ↔ Abv x y ⟨n, d, up⟩ := by
  have h := low_val (x := n) hd
  obtain ⟨v, hv⟩ : (Int.gcd n d : Int) ∣ d := Int.gcd_dvd_right n d
  have g0 := gcd_pos (a := n) hd
  have l2 : 0 < (low n d).2 := by
    show 0 < d / (Int.gcd n d : Int)
    generalize (Int.gcd n d : Int) = g at *
    rw [hv, Int.mul_ediv_cancel_left _ (by omega)]
    rw [hv] at hd
    exact Int.pos_of_mul_pos_right hd g0 
  unfold Abv
  show ((low n d).1 * y < x * (low n d).2 ∨ ((low n d).1 * y = x * (low n d).2 ∧ up = true)) ↔ (n * y < x * d ∨ (n * y = x * d ∧ up = true))
  generalize low n d = z at *
  have e1 : z.1 * y * d = n * y * z.2 := by
    calc z.1 * y * d = (z.1 * d) * y := by grind
      _ = n * z.2 * y := by rw [h]
      _ = n * y * z.2 := by grind
  have e2 : x * z.2 * d = x * d * z.2 := by grind
  have a1 : z.1 * y < x * z.2 ↔ n * y < x * d := by
    rw [← Int.mul_lt_mul_right hd, e1, e2, Int.mul_lt_mul_right l2]
  have a2 : z.1 * y = x * z.2 ↔ n * y = x * d := by
    rw [← Int.mul_eq_mul_right_iff (show d ≠ 0 by omega), e1, e2, Int.mul_eq_mul_right_iff (show z.2 ≠ 0 by omega)]
  rw [a1, a2]
theorem abv_zero {y : Int} {t : Th} (h : t.Ok) (hy : 0 < y) : ¬ Abv 0 y t := by
  unfold Abv
  rw [Int.zero_mul]
  rintro (q | ⟨q1, q2⟩)
  · have := Int.mul_nonneg h.n0 (Int.le_of_lt hy)
    omega
  · have : t.n = 0 := by
      rcases Int.mul_eq_zero.mp q1 with z | z
      · exact z
      · omega
    rw [h.z this] at q2
    cases q2
theorem abv_one {y : Int} {t : Th} (h : t.Ok) (hy : 0 < y) : Abv y y t := by
  unfold Abv
  by_cases q : t.n = t.d
  · exact .inr ⟨by rw [q, Int.mul_comm], h.o q⟩
  · refine .inl ?_
    rw [Int.mul_comm y]
    exact Int.mul_lt_mul_of_pos_right (by have := h.nd; omega) hy
/-- rounding at width w by thresholds for even (false) and odd (true) cells -/
def thrI (n d w : Int) (T : Bool → Th) : Int × Int :=
  powI ((cellI n d w).1 + (if Abv (posI n d w).1 (posI n d w).2 (T (decide ((cellI n d w).1 % 2 = 1))) then 1 else 0)) (cellI n d w).2
def nev : Th := ⟨1, 1, true⟩
def alw : Th := ⟨0, 1, false⟩
def tieD : Th := ⟨1, 2, false⟩
def tieU : Th := ⟨1, 2, true⟩
def byR : Ru → Bool → Th
  | .dn, _ => nev
  | .hd, _ => tieD
  | .he, false => tieD
  | .he, true => tieU
  | .hu, _ => tieU
  | .od, false => alw
  | .od, true => nev
  | .up, _ => alw
theorem byR_ok (r : Ru) (b : Bool) : (byR r b).Ok := by
  cases r <;> cases b <;> exact ⟨by decide, by decide, by decide, by decide, by decide⟩
/-- the cell's own: p, q with e = p - q -/
theorem cell_pq {n d w : Int} (hn : 0 < n) (hd : 0 < d) (hw : 1 ≤ w) (p q : Nat) (h : (cellI n d w).2 = (p : Int) - q) :
    (cellI n d w).1 = n * 2 ^ q / (d * 2 ^ p) ∧ 2 ^ (w - 1).toNat ≤ (cellI n d w).1 ∧ (cellI n d w).1 < 2 ^ w.toNat ∧ posI n d w = low (n * 2 ^ q % (d * 2 ^ p)) (d * 2 ^ p) := by
  obtain ⟨c1, c2, c3, _⟩ := cellI_spec hn hd hw
  have e1 : (cellI n d w).1 = n * 2 ^ q / (d * 2 ^ p) := by
    rw [c1]
    generalize (cellI n d w).2 = e at h
    unfold scI
    generalize hA : (0 - e).toNat = A
    generalize hB : (-(0 - e)).toNat = B
    show n * 2 ^ A / (d * 2 ^ B) = _
    refine div_cross (Int.mul_pos hd (pow2_pos B)) (Int.mul_pos hd (pow2_pos p)) ?_
    have : (2 : Int) ^ A * 2 ^ p = 2 ^ q * 2 ^ B := by rw [← Int.pow_add, ← Int.pow_add]; congr 1; omega
    grind
  rw [e1] at c2 c3
  exact ⟨e1, by rw [e1]; exact c2, by rw [e1]; exact c3, (cell_at hn hd hw c2 c3).2⟩
theorem lowZ' {x y : Int} (hy : 0 < y) : (low x y).1 = 0 ↔ x = 0 := by
  have h := low_val (x := x) hy
  constructor
  · intro z
    rw [z, Int.zero_mul] at h
    rcases Int.mul_eq_zero.mp h.symm with q | q
    · exact q
    · exfalso
      have g0 := gcd_pos (a := x) hy
      have : (low x y).2 = y / (Int.gcd x y : Int) := rfl
      obtain ⟨v, hv⟩ : (Int.gcd x y : Int) ∣ y := Int.gcd_dvd_right x y
      rw [this] at q
      generalize (Int.gcd x y : Int) = g at *
      rw [hv, Int.mul_ediv_cancel_left _ (by omega)] at q
      subst q
      omega
  · rintro rfl
    show 0 / _ = _
    exact Int.zero_ediv _
/-- where the position is 0, it is the number itself -/
theorem pow_self {n d w : Int} (hn : 0 < n) (hd : 0 < d) (hg : Int.gcd n d = 1) (hw : 1 ≤ w) (h : (posI n d w).1 = 0) : powI (cellI n d w).1 (cellI n d w).2 = (n, d) := by
  obtain ⟨p, q, he⟩ : ∃ p q : Nat, (cellI n d w).2 = (p : Int) - q := ⟨((cellI n d w).2).toNat, (-(cellI n d w).2).toNat, by omega⟩
  obtain ⟨c1, c2, c3, c4⟩ := cell_pq hn hd hw p q he
  have hb := Int.mul_pos hd (pow2_pos p)
  rw [c4, lowZ' hb] at h
  refine pow_is he (Int.lt_of_lt_of_le (pow2_pos _) c2) hd hg ?_
  have := Int.emod_def (n * 2 ^ q) (d * 2 ^ p)
  rw [h, ← c1] at this
  grind
theorem thr_self {n d w : Int} {T : Bool → Th} (hT : ∀ b, (T b).Ok) (hn : 0 < n) (hd : 0 < d) (hg : Int.gcd n d = 1) (hw : 1 ≤ w) (h : (posI n d w).1 = 0) : thrI n d w T = (n, d) := by
  unfold thrI
  have y0 : 0 < (posI n d w).2 := by
    have q : ∃ x y : Int, 0 ≤ x ∧ 0 < y ∧ posI n d w = low x y := by
      obtain ⟨p, q, he⟩ : ∃ p q : Nat, (cellI n d w).2 = (p : Int) - q := ⟨((cellI n d w).2).toNat, (-(cellI n d w).2).toNat, by omega⟩
      obtain ⟨c1, c2, c3, c4⟩ := cell_pq hn hd hw p q he
      have hb := Int.mul_pos hd (pow2_pos p)
      exact ⟨_, _, Int.emod_nonneg _ (by omega), hb, c4⟩
    obtain ⟨x, y, hx, hy, e⟩ := q
    rw [e, lowZ' hy] at h
    subst h
    rw [e]
    show 0 < y / (Int.gcd 0 y : Int)
    rw [Int.gcd_zero_left]
    have : ((y.natAbs : Nat) : Int) = y := by omega
    rw [this, Int.ediv_self (by omega)]
    decide
  rw [h, if_neg (abv_zero (hT _) y0), Int.add_zero]
  exact pow_self hn hd hg hw h
/-- position: between 0 and 1 -/
theorem pos_rng {n d w : Int} (hn : 0 < n) (hd : 0 < d) (hw : 1 ≤ w) (h : (posI n d w).1 ≠ 0) : 0 < (posI n d w).1 ∧ (posI n d w).1 < (posI n d w).2 := by
  obtain ⟨p, q, he⟩ : ∃ p q : Nat, (cellI n d w).2 = (p : Int) - q := ⟨((cellI n d w).2).toNat, (-(cellI n d w).2).toNat, by omega⟩
  obtain ⟨c1, c2, c3, c4⟩ := cell_pq hn hd hw p q he
  have hb := Int.mul_pos hd (pow2_pos p)
  have m0 := Int.emod_nonneg (n * 2 ^ q) (show d * 2 ^ p ≠ 0 by omega)
  have m1 := Int.emod_lt_of_pos (n * 2 ^ q) hb
  rw [c4] at h ⊢
  have x0 : n * 2 ^ q % (d * 2 ^ p) ≠ 0 := fun z => h ((lowZ' hb).mpr z)
  generalize n * 2 ^ q % (d * 2 ^ p) = x at *
  generalize d * 2 ^ p = y at *
  obtain ⟨h1, h2, _⟩ := low_pos (n := x) (d := y) (by omega) hb
  have hv := low_val (x := x) hb
  refine ⟨h1, ?_⟩
  generalize low x y = z at *
  refine Int.lt_of_mul_lt_mul_right (a := y) ?_ (Int.le_of_lt hb)
  rw [hv, Int.mul_comm x]
  exact Int.mul_lt_mul_of_pos_left m1 h2
theorem goes_abv {k x y : Int} (r : Ru) (hx : 0 < x) (hy : x < y) : goesUp k x y r = true ↔ Abv x y (byR r (decide (k % 2 = 1))) := by
  have h2 : k % 2 = 0 ∨ k % 2 = 1 := by omega
  rcases h2 with h2 | h2 <;> cases r <;> simp only [goesUp, byR, h2, Abv, nev, alw, tieD, tieU] <;> simp <;> first | omega | (split <;> simp <;> omega) | skip
theorem thr_round {n d w : Int} (r : Ru) (hn : 0 < n) (hd : 0 < d) (hg : Int.gcd n d = 1) (hw : 1 ≤ w) : roundI n d w r = thrI n d w (byR r) := by
  by_cases h : (posI n d w).1 = 0
  · rw [thr_self (byR_ok r) hn hd hg hw h]
    unfold roundI endsI
    rw [if_pos h]
    split <;> rfl
  · obtain ⟨p1, p2⟩ := pos_rng hn hd hw h
    have ga := goes_abv (k := (cellI n d w).1) r p1 p2
    unfold roundI endsI thrI
    rw [if_neg h]
    by_cases hu : goesUp (cellI n d w).1 (posI n d w).1 (posI n d w).2 r = true
    · rw [if_pos hu, if_pos (ga.mp hu)]
    · rw [if_neg hu, if_neg (fun z => hu (ga.mpr z)), Int.add_zero]
/-- the last index that stays down -/
def lastI (r : Ru) (far : Nat) (b : Bool) : Int :=
  if (byR r b).up = false then (byR r b).n * 2 ^ far / (byR r b).d else (byR r b).n * 2 ^ far / (byR r b).d - 1
def combI (T : Bool → Th) (r : Ru) (far : Nat) (b : Bool) : Th :=
  ⟨(low (lastI r far b * (T (decide (lastI r far b % 2 = 1))).d + (T (decide (lastI r far b % 2 = 1))).n) ((T (decide (lastI r far b % 2 = 1))).d * 2 ^ far)).1,
   (low (lastI r far b * (T (decide (lastI r far b % 2 = 1))).d + (T (decide (lastI r far b % 2 = 1))).n) ((T (decide (lastI r far b % 2 = 1))).d * 2 ^ far)).2,
   (T (decide (lastI r far b % 2 = 1))).up⟩
theorem last_iff {r : Ru} {far : Nat} {b : Bool} {x : Int} (hf : 1 ≤ far) (h0 : 0 ≤ x) (h1 : x ≤ 2 ^ far) : Abv x (2 ^ far) (byR r b) ↔ lastI r far b < x := by
  obtain ⟨f, rfl⟩ : ∃ f, far = f + 1 := ⟨far - 1, by omega⟩
  have e : (2 : Int) ^ (f + 1) = 2 * 2 ^ f := by rw [Int.pow_succ, Int.mul_comm]
  have p := pow2_pos f
  unfold lastI Abv
  rw [e] at h1 ⊢
  generalize (2 : Int) ^ f = F at *
  cases r <;> cases b <;> simp only [byR, nev, alw, tieD, tieU] <;> simp <;> omega
theorem last_rng {r : Ru} {far : Nat} {b : Bool} (hf : 1 ≤ far) : 0 ≤ lastI r far b ∧ lastI r far b < 2 ^ far := by
  obtain ⟨f, rfl⟩ : ∃ f, far = f + 1 := ⟨far - 1, by omega⟩
  have e : (2 : Int) ^ (f + 1) = 2 * 2 ^ f := by rw [Int.pow_succ, Int.mul_comm]
  have p := pow2_pos f
  unfold lastI
  rw [e]
  generalize (2 : Int) ^ f = F at *
  cases r <;> cases b <;> simp only [byR, nev, alw, tieD, tieU] <;> simp <;> omega
theorem comb_core {i j b c : Int} {t : Th} (ht : t.Ok) (hb : 0 < b) (c0 : 0 ≤ c) (c1 : c < b) :
    (i * t.d + t.n) * b < (j * b + c) * t.d ∨ ((i * t.d + t.n) * b = (j * b + c) * t.d ∧ t.up = true) ↔ (i < j ∨ (i = j ∧ Abv c b t)) := by
  have hd := ht.d0
  have hn := ht.n0
  have hnd := ht.nd
  have e : (j * b + c) * t.d - (i * t.d + t.n) * b = (j - i) * (b * t.d) + (c * t.d - t.n * b) := by grind
  have bd := Int.mul_pos hb hd
  have x1 : 0 ≤ t.n * b := Int.mul_nonneg hn (Int.le_of_lt hb)
  have x2 : t.n * b ≤ b * t.d := by rw [Int.mul_comm b]; exact Int.mul_le_mul_of_nonneg_right hnd (Int.le_of_lt hb)
  have x3 : 0 ≤ c * t.d := Int.mul_nonneg c0 (Int.le_of_lt hd)
  have x4 : c * t.d < b * t.d := Int.mul_lt_mul_of_pos_right c1 hd
  have x5 : t.n * b = b * t.d → t.n = t.d := fun h => by
    rw [Int.mul_comm b] at h
    exact Int.eq_of_mul_eq_mul_right (by omega) h
  unfold Abv
  generalize hL : (i * t.d + t.n) * b = L at *
  generalize hR : (j * b + c) * t.d = R at *
  rcases Int.lt_trichotomy i j with h | h | h
  · have y : b * t.d ≤ (j - i) * (b * t.d) := by
      have := Int.mul_le_mul_of_nonneg_right (show 1 ≤ j - i by omega) (Int.le_of_lt bd)
      omega
    constructor
    · intro _; exact .inl h
    · intro _
      by_cases q : L < R
      · exact .inl q
      · refine .inr ⟨by omega, ht.o (x5 (by omega))⟩
  · subst h
    rw [Int.sub_self, Int.zero_mul] at e
    constructor
    · rintro (q | ⟨q1, q2⟩)
      · exact .inr ⟨rfl, .inl (by omega)⟩
      · exact .inr ⟨rfl, .inr ⟨by omega, q2⟩⟩
    · rintro (q | ⟨_, q | ⟨q1, q2⟩⟩)
      · omega
      · exact .inl (by omega)
      · exact .inr ⟨by omega, q2⟩
  · have y : (j - i) * (b * t.d) ≤ - (b * t.d) := by
      have := Int.mul_le_mul_of_nonneg_right (show j - i ≤ -1 by omega) (Int.le_of_lt bd)
      omega
    constructor
    · rintro (q | ⟨q1, q2⟩) <;> omega
    · rintro (q | ⟨q, _⟩) <;> omega
theorem comb_abv {T : Bool → Th} (hT : ∀ b, (T b).Ok) {r : Ru} {far : Nat} {bo : Bool} {j b c u : Int} (hf : 1 ≤ far) (j0 : 0 ≤ j) (j1 : j < 2 ^ far) (hb : 0 < b) (c0 : 0 ≤ c) (c1 : c < b)
    (hu : u = if Abv c b (T (decide (j % 2 = 1))) then 1 else 0) : Abv (j * b + c) (b * 2 ^ far) (combI T r far bo) ↔ Abv (j + u) (2 ^ far) (byR r bo) := by
  have F0 := pow2_pos far
  have hu' : u = 0 ∨ u = 1 := by rw [hu]; split <;> simp
  rw [last_iff hf (by omega) (by omega)]
  unfold combI
  generalize hi : lastI r far bo = i
  have ht := hT (decide (i % 2 = 1))
  generalize hTi : T (decide (i % 2 = 1)) = t at ht
  have hd := ht.d0
  rw [abv_th (Int.mul_pos hd F0)]
  have s1 : Abv (j * b + c) (b * 2 ^ far) ⟨i * t.d + t.n, t.d * 2 ^ far, t.up⟩ ↔ ((i * t.d + t.n) * b < (j * b + c) * t.d ∨ ((i * t.d + t.n) * b = (j * b + c) * t.d ∧ t.up = true)) := by
    unfold Abv
    show ((i * t.d + t.n) * (b * 2 ^ far) < (j * b + c) * (t.d * 2 ^ far) ∨ ((i * t.d + t.n) * (b * 2 ^ far) = (j * b + c) * (t.d * 2 ^ far) ∧ t.up = true)) ↔ _
    rw [← Int.mul_assoc, ← Int.mul_assoc, Int.mul_lt_mul_right F0, Int.mul_eq_mul_right_iff (by omega)]
  rw [s1, comb_core ht hb c0 c1]
  constructor
  · rintro (q | ⟨rfl, q⟩)
    · omega
    · rw [hTi, if_pos q] at hu
      omega
  · intro q
    by_cases h : i < j
    · exact .inl h
    · have e : i = j := by omega
      refine .inr ⟨e, ?_⟩
      by_cases z : Abv c b t
      · exact z
      · subst e
        rw [hTi, if_neg z] at hu
        omega
theorem th_ok_low {n d : Int} {up : Bool} (hd : 0 < d) (h0 : 0 ≤ n) (h1 : n ≤ d) (z : n = 0 → up = false) (o : n = d → up = true) : Th.Ok ⟨(low n d).1, (low n d).2, up⟩ := by
  have h := low_val (x := n) hd
  obtain ⟨v, hv⟩ : (Int.gcd n d : Int) ∣ d := Int.gcd_dvd_right n d
  have g0 := gcd_pos (a := n) hd
  have l2 : 0 < (low n d).2 := by
    show 0 < d / (Int.gcd n d : Int)
    generalize (Int.gcd n d : Int) = g at *
    rw [hv, Int.mul_ediv_cancel_left _ (by omega)]
    rw [hv] at hd
    exact Int.pos_of_mul_pos_right hd g0
  have l1 : 0 ≤ (low n d).1 := Int.ediv_nonneg h0 (Int.le_of_lt g0)
  refine ⟨l1, ?_, l2, ?_, ?_⟩
  · show (low n d).1 ≤ (low n d).2
    refine Int.le_of_mul_le_mul_right (a := d) ?_ hd
    rw [h, Int.mul_comm (low n d).2]
    exact Int.mul_le_mul_of_nonneg_right h1 (Int.le_of_lt l2)
  · intro q
    replace q : (low n d).1 = 0 := q
    exact z ((lowZ' hd).mp q)
  · intro q
    replace q : (low n d).1 = (low n d).2 := q
    refine o ?_
    rw [q, Int.mul_comm] at h
    exact (Int.eq_of_mul_eq_mul_right (by omega) h).symm
theorem comb_ok {T : Bool → Th} (hT : ∀ b, (T b).Ok) {r : Ru} {far : Nat} (hf : 1 ≤ far) (bo : Bool) : (combI T r far bo).Ok := by
  have F0 := pow2_pos far
  obtain ⟨i0, i1⟩ := last_rng (r := r) (b := bo) hf
  unfold combI
  generalize hi : lastI r far bo = i at *
  have ht := hT (decide (i % 2 = 1))
  generalize hTi : T (decide (i % 2 = 1)) = t at ht
  have hd := ht.d0
  have hn := ht.n0
  have x := Int.mul_nonneg i0 (Int.le_of_lt hd)
  have y : i * t.d + t.d ≤ t.d * 2 ^ far := by
    have := Int.mul_le_mul_of_nonneg_right (show i + 1 ≤ 2 ^ far by omega) (Int.le_of_lt hd)
    rw [Int.add_mul, Int.mul_comm (2 ^ far)] at this
    omega
  have hnd := ht.nd
  refine th_ok_low (Int.mul_pos hd F0) (by omega) (by omega) (fun z => ht.z (by omega)) (fun z => ht.o (by omega))
/-- a step after a rounding by thresholds is a rounding by the combined thresholds -/
theorem comb_law {T : Bool → Th} (hT : ∀ b, (T b).Ok) {r : Ru} {n d w : Int} {far : Nat} (hn : 0 < n) (hd : 0 < d) (hw : 1 ≤ w) (hf : 1 ≤ far) :
    thrI (thrI n d (w + far) T).1 (thrI n d (w + far) T).2 w (byR r) = thrI n d w (combI T r far) := by
  obtain ⟨p, q, he⟩ : ∃ p q : Nat, (cellI n d w).2 = ((p + far : Nat) : Int) - q := ⟨((cellI n d w).2 - far).toNat, (-((cellI n d w).2 - far)).toNat, by omega⟩
  obtain ⟨k1, k2, k3, k4⟩ := cell_pq hn hd hw (p + far) q he
  have F0 := pow2_pos far
  have P0 := pow2_pos p
  have hb : 0 < d * 2 ^ p := Int.mul_pos hd P0
  have eb : d * 2 ^ (p + far) = d * 2 ^ p * 2 ^ far := by rw [Int.pow_add, Int.mul_assoc]
  rw [eb] at k1 k4
  generalize hk : (cellI n d w).1 = k at k1 k2 k3
  generalize hb' : d * 2 ^ p = b at *
  generalize ha' : n * 2 ^ q = a at *
  have eK : a / b / 2 ^ far = k := by rw [Int.ediv_ediv, if_neg (fun h => absurd h.1 (by omega)), Int.sub_zero, k1]
  have j0 := Int.emod_nonneg (a / b) (show (2 : Int) ^ far ≠ 0 by omega)
  have j1 := Int.emod_lt_of_pos (a / b) F0
  have eKj : a / b = k * 2 ^ far + a / b % 2 ^ far := by
    have := Int.emod_add_mul_ediv (a / b) (2 ^ far)
    rw [eK] at this
    rw [Int.mul_comm k]
    omega
  generalize hj : a / b % 2 ^ far = j at *
  have c0 := Int.emod_nonneg a (show b ≠ 0 by omega)
  have c1 := Int.emod_lt_of_pos a hb
  have ea : a = b * (a / b) + a % b := (Int.mul_ediv_add_emod a b).symm
  have em : a % (b * 2 ^ far) = j * b + a % b := by
    have h1 : a = (j * b + a % b) + (b * 2 ^ far) * k := by
      rw [eKj] at ea
      grind
    have h2 : 0 ≤ j * b + a % b := by
      have := Int.mul_nonneg j0 (Int.le_of_lt hb)
      omega
    have h3 : j * b + a % b < b * 2 ^ far := by
      have := Int.mul_le_mul_of_nonneg_right (show j + 1 ≤ 2 ^ far by omega) (Int.le_of_lt hb)
      rw [Int.add_mul, Int.mul_comm (2 ^ far)] at this
      omega
    have h4 : a % (b * 2 ^ far) = (j * b + a % b) % (b * 2 ^ far) := by
      conv => lhs; rw [h1]
      exact Int.add_mul_emod_self_left ..
    rw [h4, Int.emod_eq_of_lt h2 h3]
  -- the wide cell
  have W1 : (2 : Int) ^ (w + far - 1).toNat ≤ a / b := by
    have : (w + far - 1).toNat = (w - 1).toNat + far := by omega
    rw [this, Int.pow_add, eKj]
    have := Int.mul_le_mul_of_nonneg_right k2 (Int.le_of_lt F0)
    omega
  have W2 : a / b < (2 : Int) ^ (w + far).toNat := by
    have : (w + far).toNat = w.toNat + far := by omega
    rw [this, Int.pow_add, eKj]
    have := Int.mul_le_mul_of_nonneg_right (show k + 1 ≤ 2 ^ w.toNat by omega) (Int.le_of_lt F0)
    rw [Int.add_mul] at this
    omega
  obtain ⟨v1, v2⟩ := cell_at (w := w + far) (p := p) (q := q) hn hd (by omega) (by rw [hb', ha']; exact W1) (by rw [hb', ha']; exact W2)
  rw [hb', ha'] at v1 v2
  have podd : a / b % 2 = j % 2 := by
    obtain ⟨f, rfl⟩ : ∃ f, far = f + 1 := ⟨far - 1, by omega⟩
    rw [eKj, Int.pow_succ]
    generalize (2 : Int) ^ f = G
    rw [show k * (G * 2) = (k * G) * 2 by grind]
    omega
  generalize hu : (if Abv (a % b) b (T (decide (j % 2 = 1))) then (1 : Int) else 0) = u
  have hu01 : u = 0 ∨ u = 1 := by rw [← hu]; split <;> simp
  have ey : thrI n d (w + far) T = powI (a / b + u) ((p : Int) - q) := by
    unfold thrI
    rw [v1, v2]
    show powI (a / b + if Abv _ _ (T (decide (a / b % 2 = 1))) then 1 else 0) _ = _
    rw [podd]
    congr 2
    rw [← hu]
    have hx := abv_low (x := a % b) (t := T (decide (j % 2 = 1))) hb
    by_cases z : Abv (a % b) b (T (decide (j % 2 = 1)))
    · rw [if_pos z, if_pos (hx.mpr z)]
    · rw [if_neg z, if_neg (fun y => z (hx.mp y))]
  have hab := comb_abv hT (r := r) (bo := decide (k % 2 = 1)) hf j0 j1 hb c0 c1 hu.symm
  have er : thrI n d w (combI T r far) = powI (k + if Abv (j + u) (2 ^ far) (byR r (decide (k % 2 = 1))) then 1 else 0) (((p + far : Nat) : Int) - q) := by
    unfold thrI
    rw [hk, k4, he, em]
    congr 2
    have hx := abv_low (x := j * b + a % b) (t := combI T r far (decide (k % 2 = 1))) (Int.mul_pos hb F0)
    by_cases z : Abv (j + u) (2 ^ far) (byR r (decide (k % 2 = 1)))
    · rw [if_pos z, if_pos (hx.mpr (hab.mpr z))]
    · rw [if_neg z, if_neg (fun y => z (hab.mp (hx.mp y)))]
  have K0 : 0 < a / b := Int.lt_of_lt_of_le (pow2_pos _) W1
  obtain ⟨y1, y2, y3⟩ := pow_pos (k := a / b + u) (e := (p : Int) - q) (by omega)
  have yv := pow_val (k := a / b + u) (e := (p : Int) - q) (p := p) (q := q) rfl
  rw [ey, er]
  generalize hy : powI (a / b + u) ((p : Int) - q) = y at *
  have k0 : 0 < k := Int.lt_of_lt_of_le (pow2_pos _) k2
  have yd : 0 < y.2 * 2 ^ p := Int.mul_pos y2 P0
  have yv' : y.1 * 2 ^ q = (k * 2 ^ far + (j + u)) * (y.2 * 2 ^ p) := by
    rw [yv, eKj]
    grind
  have ed : y.2 * 2 ^ (p + far) = 2 ^ far * (y.2 * 2 ^ p) := by rw [Int.pow_add]; grind
  by_cases hlt : j + u < 2 ^ far
  · have d1 : y.1 * 2 ^ q / (y.2 * 2 ^ (p + far)) = k := by
      rw [yv', ed, Int.mul_ediv_mul_of_pos_left _ _ yd, Int.mul_comm k, Int.mul_add_ediv_left _ _ (by omega), Int.ediv_eq_zero_of_lt (by omega) hlt, Int.add_zero]
    have d2 : y.1 * 2 ^ q % (y.2 * 2 ^ (p + far)) = (j + u) * (y.2 * 2 ^ p) := by
      rw [Int.emod_def, d1, yv', ed]
      grind
    obtain ⟨u1, u2⟩ := cell_at (n := y.1) (d := y.2) (w := w) (p := p + far) (q := q) y1 y2 hw (by rw [d1]; exact k2) (by rw [d1]; exact k3)
    rw [d1] at u1
    rw [d2, ed, low_mul yd] at u2
    unfold thrI
    rw [u1, u2]
    show powI (k + if Abv _ _ (byR r (decide (k % 2 = 1))) then 1 else 0) _ = _
    congr 2
    have hx := abv_low (x := j + u) (t := byR r (decide (k % 2 = 1))) F0
    by_cases z : Abv (j + u) (2 ^ far) (byR r (decide (k % 2 = 1)))
    · rw [if_pos z, if_pos (hx.mpr z)]
    · rw [if_neg z, if_neg (fun y => z (hx.mp y))]
  · have hju : j + u = 2 ^ far := by omega
    rw [hju, if_pos (abv_one (byR_ok _ _) F0)]
    rw [hju] at yv'
    have yv2 : y.1 * 2 ^ q = (k + 1) * 2 ^ (p + far) * y.2 := by
      rw [yv', Int.pow_add]
      grind
    have e2 : powI (k + 1) (((p + far : Nat) : Int) - q) = (y.1, y.2) := pow_is rfl (by omega) y2 y3 yv2
    rw [e2]
    refine thr_self (byR_ok r) y1 y2 y3 hw ?_
    have dd : 0 < y.2 * 2 ^ (p + far) := Int.mul_pos y2 (pow2_pos _)
    by_cases hk1 : k + 1 < 2 ^ w.toNat
    · have d1 : y.1 * 2 ^ q / (y.2 * 2 ^ (p + far)) = k + 1 := by
        rw [yv2, show (k + 1) * 2 ^ (p + far) * y.2 = (k + 1) * (y.2 * 2 ^ (p + far)) by grind, Int.mul_ediv_cancel _ (by omega)]
      have d2 : y.1 * 2 ^ q % (y.2 * 2 ^ (p + far)) = 0 := by
        rw [Int.emod_def, d1, yv2]
        grind
      obtain ⟨u1, u2⟩ := cell_at (n := y.1) (d := y.2) (w := w) (p := p + far) (q := q) y1 y2 hw (by rw [d1]; omega) (by rw [d1]; exact hk1)
      rw [u2, d2]
      exact (lowZ' dd).mpr rfl
    · have hk2 : k + 1 = 2 ^ w.toNat := by omega
      have ew : w.toNat = (w - 1).toNat + 1 := by omega
      have dd2 : 0 < y.2 * 2 ^ (p + far + 1) := Int.mul_pos y2 (pow2_pos _)
      have yv3 : y.1 * 2 ^ q = 2 ^ (w - 1).toNat * (y.2 * 2 ^ (p + far + 1)) := by
        rw [yv2, hk2, ew, Int.pow_succ, Int.pow_succ]
        grind
      have d1 : y.1 * 2 ^ q / (y.2 * 2 ^ (p + far + 1)) = 2 ^ (w - 1).toNat := by
        rw [yv3, Int.mul_ediv_cancel _ (by omega)]
      have d2 : y.1 * 2 ^ q % (y.2 * 2 ^ (p + far + 1)) = 0 := by
        rw [Int.emod_def, d1, yv3]
        grind
      obtain ⟨u1, u2⟩ := cell_at (n := y.1) (d := y.2) (w := w) (p := p + far + 1) (q := q) y1 y2 hw (by rw [d1]; omega) (by rw [d1, ew, Int.pow_succ]; have := pow2_pos (w - 1).toNat; omega)
      rw [u2, d2]
      exact (lowZ' dd2).mpr rfl
/-! ### chains: plain law -/
structure Nu (n d : Int) : Prop where
  n0 : 0 < n
  d0 : 0 < d
  g : Int.gcd n d = 1
/-- (k 2^e), k from 2^(w-1) to 2^w: of width w -/
theorem pow_fits {s e w : Int} (hw : 1 ≤ w) (h1 : 2 ^ (w - 1).toNat ≤ s) (h2 : s ≤ 2 ^ w.toNat) : (posI (powI s e).1 (powI s e).2 w).1 = 0 := by
  obtain ⟨p, q, he⟩ : ∃ p q : Nat, e = (p : Int) - q := ⟨e.toNat, (-e).toNat, by omega⟩
  have s0 : 0 < s := Int.lt_of_lt_of_le (pow2_pos _) h1
  obtain ⟨y1, y2, y3⟩ := pow_pos (k := s) (e := e) s0
  have yv := pow_val (k := s) he
  generalize powI s e = y at *
  have dd : 0 < y.2 * 2 ^ p := Int.mul_pos y2 (pow2_pos _)
  by_cases hk1 : s < 2 ^ w.toNat
  · have d1 : y.1 * 2 ^ q / (y.2 * 2 ^ p) = s := by
      rw [yv, show s * 2 ^ p * y.2 = s * (y.2 * 2 ^ p) by grind, Int.mul_ediv_cancel _ (by omega)]
    have d2 : y.1 * 2 ^ q % (y.2 * 2 ^ p) = 0 := by
      rw [Int.emod_def, d1, yv]
      grind
    obtain ⟨u1, u2⟩ := cell_at (n := y.1) (d := y.2) (w := w) (p := p) (q := q) y1 y2 hw (by rw [d1]; omega) (by rw [d1]; exact hk1)
    rw [u2, d2]
    exact (lowZ' dd).mpr rfl
  · have hk2 : s = 2 ^ w.toNat := by omega
    have ew : w.toNat = (w - 1).toNat + 1 := by omega
    have dd2 : 0 < y.2 * 2 ^ (p + 1) := Int.mul_pos y2 (pow2_pos _)
    have yv3 : y.1 * 2 ^ q = 2 ^ (w - 1).toNat * (y.2 * 2 ^ (p + 1)) := by
      rw [yv, hk2, ew, Int.pow_succ, Int.pow_succ]
      grind
    have d1 : y.1 * 2 ^ q / (y.2 * 2 ^ (p + 1)) = 2 ^ (w - 1).toNat := by
      rw [yv3, Int.mul_ediv_cancel _ (by omega)]
    have d2 : y.1 * 2 ^ q % (y.2 * 2 ^ (p + 1)) = 0 := by
      rw [Int.emod_def, d1, yv3]
      grind
    obtain ⟨u1, u2⟩ := cell_at (n := y.1) (d := y.2) (w := w) (p := p + 1) (q := q) y1 y2 hw (by rw [d1]; omega) (by rw [d1, ew, Int.pow_succ]; have := pow2_pos (w - 1).toNat; omega)
    rw [u2, d2]
    exact (lowZ' dd2).mpr rfl
theorem thr_step {n d w : Int} (T : Bool → Th) (h : Nu n d) (hw : 1 ≤ w) : ∃ s, thrI n d w T = powI s (cellI n d w).2 ∧ 2 ^ (w - 1).toNat ≤ s ∧ s ≤ 2 ^ w.toNat ∧ (s = (cellI n d w).1 ∨ s = (cellI n d w).1 + 1) := by
  obtain ⟨_, c2, c3, _⟩ := cellI_spec h.n0 h.d0 hw
  refine ⟨_, rfl, ?_, ?_, ?_⟩ <;> split <;> omega
theorem thr_nu {n d w : Int} (T : Bool → Th) (h : Nu n d) (hw : 1 ≤ w) : Nu (thrI n d w T).1 (thrI n d w T).2 ∧ (posI (thrI n d w T).1 (thrI n d w T).2 w).1 = 0 := by
  obtain ⟨s, e, h1, h2, _⟩ := thr_step T h hw
  rw [e]
  obtain ⟨y1, y2, y3⟩ := pow_pos (k := s) (e := (cellI n d w).2) (Int.lt_of_lt_of_le (pow2_pos _) h1)
  exact ⟨⟨y1, y2, y3⟩, pow_fits hw h1 h2⟩
theorem round_nu {n d w : Int} (r : Ru) (h : Nu n d) (hw : 1 ≤ w) : Nu (roundI n d w r).1 (roundI n d w r).2 ∧ (posI (roundI n d w r).1 (roundI n d w r).2 w).1 = 0 := by
  rw [thr_round r h.n0 h.d0 h.g hw]
  exact thr_nu _ h hw
theorem fits_mono {n d w w' : Int} (h : Nu n d) (hw : 1 ≤ w) (hl : w ≤ w') (f : (posI n d w).1 = 0) : (posI n d w').1 = 0 := by
  rw [pos_lw h.n0 h.d0 h.g hw] at f
  rw [pos_lw h.n0 h.d0 h.g (by omega)]
  exact ⟨f.1, by omega⟩
theorem round_self {n d w : Int} (r : Ru) (f : (posI n d w).1 = 0) : roundI n d w r = (n, d) := by
  unfold roundI endsI
  rw [if_pos f]
  split <;> rfl
def applI (n d : Int) : List (Int × Ru) → Int × Int
  | [] => (n, d)
  | s :: c => applI (roundI n d s.1 s.2).1 (roundI n d s.1 s.2).2 c
def stagI (n d : Int) : List (Int × Ru) → List (Int × Int)
  | [] => []
  | s :: c => roundI n d s.1 s.2 :: stagI (roundI n d s.1 s.2).1 (roundI n d s.1 s.2).2 c
def trimI : Option Int → List (Int × Ru) → List (Int × Ru)
  | _, [] => []
  | none, s :: c => s :: trimI (some s.1) c
  | some l, s :: c => if s.1 < l then s :: trimI (some s.1) c else trimI (some l) c
/-- a chain's widths -/
def Wds (c : List (Int × Ru)) : Prop := ∀ s ∈ c, 1 ≤ s.1 ∧ s.1 ≤ 100
theorem Wds.hd {s : Int × Ru} {c : List (Int × Ru)} (h : Wds (s :: c)) : 1 ≤ s.1 ∧ s.1 ≤ 100 := h s (List.mem_cons_self ..)
theorem Wds.tl {s : Int × Ru} {c : List (Int × Ru)} (h : Wds (s :: c)) : Wds c := fun t ht => h t (List.mem_cons_of_mem _ ht)
theorem trim_some {l : Int} (hl : 1 ≤ l) : ∀ {c : List (Int × Ru)} {n d : Int}, Wds c → Nu n d → (posI n d l).1 = 0 → applI n d c = applI n d (trimI (some l) c)
  | [], _, _, _, _, _ => rfl
  | s :: c, n, d, hw, h, f => by
    obtain ⟨r1, r2⟩ := round_nu s.2 h hw.hd.1
    unfold trimI
    by_cases q : s.1 < l
    · rw [if_pos q]
      show applI _ _ c = applI _ _ (trimI (some s.1) c)
      exact trim_some hw.hd.1 hw.tl r1 r2
    · rw [if_neg q]
      show applI (roundI n d s.1 s.2).1 (roundI n d s.1 s.2).2 c = _
      rw [round_self s.2 (fits_mono h hl (by omega) f)]
      exact trim_some hl hw.tl h f
theorem trim_law {c : List (Int × Ru)} {n d : Int} (hw : Wds c) (h : Nu n d) : applI n d c = applI n d (trimI none c) := by
  cases c with
  | nil => rfl
  | cons s c =>
    obtain ⟨r1, r2⟩ := round_nu s.2 h hw.hd.1
    exact trim_some hw.hd.1 hw.tl r1 r2
def Fall (w : Int) : List (Int × Ru) → Prop
  | [] => True
  | s :: c => 1 ≤ s.1 ∧ s.1 < w ∧ Fall s.1 c
theorem trim_fall : ∀ {c : List (Int × Ru)} {l : Int}, Wds c → Fall l (trimI (some l) c)
  | [], _, _ => trivial
  | s :: c, l, hw => by
    unfold trimI
    by_cases q : s.1 < l
    · rw [if_pos q]
      exact ⟨hw.hd.1, q, trim_fall hw.tl⟩
    · rw [if_neg q]
      exact trim_fall hw.tl
def thF (w : Int) (T : Bool → Th) : List (Int × Ru) → Int × (Bool → Th)
  | [] => (w, T)
  | s :: c => thF s.1 (combI T s.2 (w - s.1).toNat) c
theorem thF_law : ∀ {c : List (Int × Ru)} {w n d : Int} {T : Bool → Th}, (∀ b, (T b).Ok) → 1 ≤ w → Fall w c → Nu n d → applI (thrI n d w T).1 (thrI n d w T).2 c = thrI n d (thF w T c).1 (thF w T c).2
  | [], _, _, _, _, _, _, _, _ => rfl
  | s :: c, w, n, d, T, hT, hw, hf, h => by
    obtain ⟨f1, f2, f3⟩ := hf
    obtain ⟨t1, t2⟩ := thr_nu T h hw
    show applI (roundI _ _ s.1 s.2).1 (roundI _ _ s.1 s.2).2 c = _
    have e : roundI (thrI n d w T).1 (thrI n d w T).2 s.1 s.2 = thrI n d s.1 (combI T s.2 (w - s.1).toNat) := by
      rw [thr_round s.2 t1.n0 t1.d0 t1.g f1]
      have := comb_law hT (r := s.2) (w := s.1) (far := (w - s.1).toNat) h.n0 h.d0 f1 (by omega)
      rw [show s.1 + ((w - s.1).toNat : Int) = w by omega] at this
      exact this
    rw [e]
    exact thF_law (fun b => comb_ok hT (by omega) b) f1 f3 h
theorem thF_ok : ∀ {c : List (Int × Ru)} {w : Int} {T : Bool → Th}, (∀ b, (T b).Ok) → Fall w c → ∀ b, ((thF w T c).2 b).Ok
  | [], _, _, hT, _, b => hT b
  | s :: c, w, T, hT, hf, b => thF_ok (fun b => comb_ok hT (by have := hf.2.1; omega) b) hf.2.2 b
/-- the whole chain by thresholds -/
def chT : List (Int × Ru) → Int × (Bool → Th)
  | [] => (1, byR .dn)
  | s :: c => thF s.1 (byR s.2) (trimI (some s.1) c)
theorem chain_law {c : List (Int × Ru)} {n d : Int} (hc : c ≠ []) (hw : Wds c) (h : Nu n d) : applI n d c = thrI n d (chT c).1 (chT c).2 := by
  cases c with
  | nil => exact absurd rfl hc
  | cons s c =>
    rw [trim_law hw h]
    show applI (roundI n d s.1 s.2).1 (roundI n d s.1 s.2).2 (trimI (some s.1) c) = _
    rw [thr_round s.2 h.n0 h.d0 h.g hw.hd.1]
    exact thF_law (byR_ok _) hw.hd.1 (trim_fall hw.tl) h
theorem chT_ok {c : List (Int × Ru)} (hw : Wds c) (b : Bool) : ((chT c).2 b).Ok := by
  cases c with
  | nil => exact byR_ok .dn b
  | cons s c => exact thF_ok (byR_ok _) (trim_fall hw.tl) b
/-- its width: the least -/
theorem thF_min : ∀ {c : List (Int × Ru)} {w : Int} {T : Bool → Th}, (thF w T (trimI (some w) c)).1 ≤ w ∧ (∀ s ∈ c, (thF w T (trimI (some w) c)).1 ≤ s.1) ∧ ((thF w T (trimI (some w) c)).1 = w ∨ ∃ s ∈ c, (thF w T (trimI (some w) c)).1 = s.1)
  | [], w, T => by
    have e : (thF w T (trimI (some w) [])).1 = w := rfl
    refine ⟨by omega, fun s hs => absurd hs (by simp), .inl e⟩
  | s :: c, w, T => by
    unfold trimI
    by_cases q : s.1 < w
    · rw [if_pos q]
      show (thF s.1 _ _).1 ≤ w ∧ (∀ s' ∈ s :: c, (thF s.1 _ _).1 ≤ s'.1) ∧ ((thF s.1 _ _).1 = w ∨ ∃ s' ∈ s :: c, (thF s.1 _ _).1 = s'.1)
      obtain ⟨h1, h2, h3⟩ := thF_min (c := c) (w := s.1) (T := combI T s.2 (w - s.1).toNat)
      refine ⟨by omega, fun s' hs' => ?_, .inr ?_⟩
      · rcases List.mem_cons.mp hs' with rfl | hs'
        · exact h1
        · exact h2 _ hs'
      · rcases h3 with h3 | ⟨s', hs', h3⟩
        · exact ⟨s, List.mem_cons_self .., h3⟩
        · exact ⟨s', List.mem_cons_of_mem _ hs', h3⟩
    · rw [if_neg q]
      obtain ⟨h1, h2, h3⟩ := thF_min (c := c) (w := w) (T := T)
      refine ⟨h1, fun s' hs' => ?_, ?_⟩
      · rcases List.mem_cons.mp hs' with rfl | hs'
        · omega
        · exact h2 _ hs'
      · rcases h3 with h3 | ⟨s', hs', h3⟩
        · exact .inl h3
        · exact .inr ⟨s', List.mem_cons_of_mem _ hs', h3⟩
theorem chT_min {c : List (Int × Ru)} (hc : c ≠ []) : (∀ s ∈ c, (chT c).1 ≤ s.1) ∧ ∃ s ∈ c, (chT c).1 = s.1 := by
  cases c with
  | nil => exact absurd rfl hc
  | cons s c =>
    obtain ⟨h1, h2, h3⟩ := thF_min (c := c) (w := s.1) (T := byR s.2)
    refine ⟨fun s' hs' => ?_, ?_⟩
    · rcases List.mem_cons.mp hs' with rfl | hs'
      · exact h1
      · exact h2 _ hs'
    · rcases h3 with h3 | ⟨s', hs', h3⟩
      · exact ⟨s, List.mem_cons_self .., h3⟩
      · exact ⟨s', List.mem_cons_of_mem _ hs', h3⟩
/-- how great a threshold's denominator is; in lowest terms -/
theorem low_gcd {n d : Int} (hd : 0 < d) : Int.gcd (low n d).1 (low n d).2 = 1 ∧ 0 < (low n d).2 ∧ (low n d).2 ≤ d := by
  obtain ⟨u, hu⟩ : (Int.gcd n d : Int) ∣ n := Int.gcd_dvd_left n d
  obtain ⟨v, hv⟩ : (Int.gcd n d : Int) ∣ d := Int.gcd_dvd_right n d
  have g0 := gcd_pos (a := n) hd
  have e : low n d = (u, v) := by
    unfold low
    refine Prod.ext ?_ ?_
    · show n / (Int.gcd n d : Int) = u
      generalize (Int.gcd n d : Int) = g at *
      rw [hu, Int.mul_ediv_cancel_left _ (by omega)]
    · show d / (Int.gcd n d : Int) = v
      generalize (Int.gcd n d : Int) = g at *
      rw [hv, Int.mul_ediv_cancel_left _ (by omega)]
  have g1 : (Int.gcd n d) = (Int.gcd n d) * Int.gcd u v := by
    have h := Int.gcd_mul_left (Int.gcd n d : Int) u v
    rw [← hu, ← hv] at h
    simpa using h
  rw [e]
  refine ⟨?_, ?_, ?_⟩
  · have : 0 < Int.gcd n d := by omega
    show Int.gcd u v = 1
    have h2 : Int.gcd n d * 1 = Int.gcd n d * Int.gcd u v := by rw [Nat.mul_one]; exact g1
    exact (Nat.eq_of_mul_eq_mul_left this h2).symm
  · show 0 < v
    generalize (Int.gcd n d : Int) = g at *
    rw [hv] at hd
    exact Int.pos_of_mul_pos_right hd g0
  · show v ≤ d
    have v0 : 0 < v := by
      generalize (Int.gcd n d : Int) = g at *
      rw [hv] at hd
      exact Int.pos_of_mul_pos_right hd g0
    have : 1 * v ≤ (Int.gcd n d : Int) * v := Int.mul_le_mul_of_nonneg_right (by omega) (Int.le_of_lt v0)
    rw [← hv] at this
    omega
structure ThB (m : Nat) (T : Bool → Th) : Prop where
  ok : ∀ b, (T b).Ok
  g : ∀ b, Int.gcd (T b).n (T b).d = 1
  l : ∀ b, (T b).d ≤ 2 ^ m
theorem byR_B (r : Ru) : ThB 1 (byR r) := ⟨byR_ok r, fun b => by cases r <;> cases b <;> decide, fun b => by cases r <;> cases b <;> decide⟩
theorem comb_B {m far : Nat} {T : Bool → Th} {r : Ru} (h : ThB m T) (hf : 1 ≤ far) : ThB (m + far) (combI T r far) := by
  refine ⟨comb_ok h.ok hf, fun b => ?_, fun b => ?_⟩
  · exact (low_gcd (Int.mul_pos (h.ok _).d0 (pow2_pos far))).1
  · refine Int.le_trans (low_gcd (Int.mul_pos (h.ok _).d0 (pow2_pos far))).2.2 ?_
    rw [Int.pow_add]
    exact Int.mul_le_mul_of_nonneg_right (h.l _) (Int.le_of_lt (pow2_pos far))
theorem thF_B : ∀ {c : List (Int × Ru)} {w : Int} {m : Nat} {T : Bool → Th}, ThB m T → Fall w c → 1 ≤ w → ∃ m' : Nat, ThB m' (thF w T c).2 ∧ (m' : Int) ≤ m + w ∧ 1 ≤ (thF w T c).1 ∧ (thF w T c).1 ≤ w
  | [], w, m, T, h, _, hw => ⟨m, h, by omega, hw, Int.le_refl _⟩
  | s :: c, w, m, T, h, hf, hw => by
    obtain ⟨f1, f2, f3⟩ := hf
    obtain ⟨m', h1, h2, h3, h4⟩ := thF_B (c := c) (comb_B (r := s.2) (far := (w - s.1).toNat) h (by omega)) f3 f1
    exact ⟨m', h1, by omega, h3, by show (thF s.1 _ c).1 ≤ w; omega⟩
theorem ThB.mono {m m' : Nat} {T : Bool → Th} (h : ThB m T) (hm : m ≤ m') : ThB m' T := ⟨h.ok, h.g, fun b => Int.le_trans (h.l b) (pow_le2 hm)⟩
theorem chT_B {c : List (Int × Ru)} (hc : c ≠ []) (hw : Wds c) : ThB 101 (chT c).2 ∧ 1 ≤ (chT c).1 ∧ (chT c).1 ≤ 100 := by
  cases c with
  | nil => exact absurd rfl hc
  | cons s c =>
    obtain ⟨h1, h2⟩ := hw.hd
    obtain ⟨m, k1, k2, k3, k4⟩ := thF_B (byR_B s.2) (trim_fall (l := s.1) hw.tl) h1
    exact ⟨k1.mono (by omega), k3, by show (thF s.1 _ _).1 ≤ 100; omega⟩
/-! the values stay between 2^-a and 2^a -/
structure Vb (a : Nat) (n d : Int) : Prop where
  hi : n ≤ d * 2 ^ a
  lo : d ≤ n * 2 ^ a
theorem vb_e {n d w : Int} {a : Nat} (h : Nu n d) (v : Vb a n d) (h1 : 1 ≤ w) (h2 : w ≤ 100) : -(a : Int) - 100 ≤ (cellI n d w).2 ∧ (cellI n d w).2 ≤ a := by
  obtain ⟨p, q, he⟩ : ∃ p q : Nat, (cellI n d w).2 = (p : Int) - q := ⟨((cellI n d w).2).toNat, (-(cellI n d w).2).toNat, by omega⟩
  obtain ⟨c1, c2, c3, c4⟩ := cell_pq h.n0 h.d0 h1 p q he
  have hb := Int.mul_pos h.d0 (pow2_pos p)
  have hd := h.d0
  rw [c1] at c2 c3
  have x1 := (Int.le_ediv_iff_mul_le hb).mp c2
  have x2 := (Int.ediv_lt_iff_lt_mul hb).mp c3
  have y1 : (w - 1).toNat + p < a + q + 1 := by
    refine pow_lt_pow2 ?_
    refine Int.lt_of_mul_lt_mul_left (a := d) ?_ (Int.le_of_lt hd)
    have := Int.mul_le_mul_of_nonneg_right v.hi (Int.le_of_lt (pow2_pos q))
    have z := Int.mul_pos hd (pow2_pos (a + q))
    rw [Int.pow_succ, Int.pow_add]
    rw [Int.pow_add] at z ⊢
    grind
  have y2 : q < w.toNat + p + a := by
    refine pow_lt_pow2 ?_
    refine Int.lt_of_mul_lt_mul_left (a := d) ?_ (Int.le_of_lt hd)
    have := Int.mul_le_mul_of_nonneg_right v.lo (Int.le_of_lt (pow2_pos q))
    have z := Int.mul_lt_mul_of_pos_right x2 (pow2_pos a)
    rw [Int.pow_add, Int.pow_add]
    grind
  omega
theorem vb_round {n d w : Int} {a : Nat} (r : Ru) (h : Nu n d) (v : Vb a n d) (h1 : 1 ≤ w) : Vb a (roundI n d w r).1 (roundI n d w r).2 := by
  by_cases f : (posI n d w).1 = 0
  · rw [round_self r f]
    exact v
  rw [thr_round r h.n0 h.d0 h.g h1]
  obtain ⟨s, e, s1, s2, s3⟩ := thr_step (byR r) h h1
  obtain ⟨p, q, he⟩ : ∃ p q : Nat, (cellI n d w).2 = (p : Int) - q := ⟨((cellI n d w).2).toNat, (-(cellI n d w).2).toNat, by omega⟩
  obtain ⟨c1, c2, c3, c4⟩ := cell_pq h.n0 h.d0 h1 p q he
  have hb := Int.mul_pos h.d0 (pow2_pos p)
  have hd := h.d0
  have P0 := pow2_pos p
  have Q0 := pow2_pos q
  obtain ⟨y1, y2, y3⟩ := pow_pos (k := s) (e := (cellI n d w).2) (Int.lt_of_lt_of_le (pow2_pos _) s1)
  have yv := pow_val (k := s) he
  rw [e]
  generalize powI s (cellI n d w).2 = y at *
  rw [c4, lowZ' hb] at f
  have m0 := Int.emod_nonneg (n * 2 ^ q) (show d * 2 ^ p ≠ 0 by omega)
  have hm := Int.emod_def (n * 2 ^ q) (d * 2 ^ p)
  rw [← c1] at hm
  have x2 := (Int.ediv_lt_iff_lt_mul hb).mp (by rw [← c1]; exact c3)
  generalize hk : (cellI n d w).1 = k at *
  have ew : w.toNat = (w - 1).toNat + 1 := by omega
  constructor
  · have u1 : (w - 1).toNat + p < a + q := by
      refine pow_lt_pow2 ?_
      refine Int.lt_of_mul_lt_mul_left (a := d) ?_ (Int.le_of_lt hd)
      have z1 := Int.mul_le_mul_of_nonneg_right v.hi (Int.le_of_lt Q0)
      have z2 := Int.mul_le_mul_of_nonneg_right c2 (Int.le_of_lt hb)
      rw [Int.pow_add, Int.pow_add]
      grind
    have u2 : (2 : Int) ^ w.toNat * 2 ^ p ≤ 2 ^ a * 2 ^ q := by
      rw [← Int.pow_add, ← Int.pow_add]
      exact pow_le2 (by omega)
    have u3 := Int.mul_le_mul_of_nonneg_right s2 (Int.le_of_lt P0)
    have u4 := Int.mul_le_mul_of_nonneg_right (Int.le_trans u3 u2) (Int.le_of_lt y2)
    refine Int.le_of_mul_le_mul_right (a := 2 ^ q) ?_ Q0
    rw [yv]
    grind
  · have u1 : q < w.toNat + p + a := by
      refine pow_lt_pow2 ?_
      refine Int.lt_of_mul_lt_mul_left (a := d) ?_ (Int.le_of_lt hd)
      have := Int.mul_le_mul_of_nonneg_right v.lo (Int.le_of_lt Q0)
      have z := Int.mul_lt_mul_of_pos_right x2 (pow2_pos a)
      rw [Int.pow_add, Int.pow_add]
      grind
    have u2 : (2 : Int) ^ q ≤ 2 ^ (w - 1).toNat * 2 ^ p * 2 ^ a := by
      rw [← Int.pow_add, ← Int.pow_add]
      exact pow_le2 (by omega)
    have u3 := Int.mul_le_mul_of_nonneg_right (Int.mul_le_mul_of_nonneg_right s1 (Int.le_of_lt P0)) (Int.le_of_lt (pow2_pos a))
    have u4 := Int.mul_le_mul_of_nonneg_right (Int.le_trans u2 u3) (Int.le_of_lt y2)
    refine Int.le_of_mul_le_mul_right (a := 2 ^ q) ?_ Q0
    rw [show y.1 * 2 ^ a * 2 ^ q = y.1 * 2 ^ q * 2 ^ a by grind, yv]
    grind
end Z

namespace Z
open L2 PySem PySem.Spec PyProof.Rows
open Evl (Ex ex_l ex_t ex_rd fresh_back)
/-! ### in, not in: data of any depth -/
def fInD (neg : Bool) : BinF := fun d e post => match e with
  | .tuple es => SeqAt.shaped d = true ∧ SeqAt.shaped (.tuple es) = true ∧ post (.bool (if neg then !inD d es else inD d es))
  | .list es => SeqAt.shaped d = true ∧ SeqAt.shaped (.list es) = true ∧ post (.bool (if neg then !inD d es else inD d es))
  | _ => False
def rInX (K : Fg) (neg : Bool) : R2 := fun x y H Q => ∃ d e es, Dp K H x d ∧ Dp K H y e ∧ (e = .list es ∨ e = .tuple es) ∧ SeqAt.shaped d = true ∧ SeqAt.shaped e = true ∧ Q (.bl (if neg then !inD d es else inD d es)) H
section
variable {X : Cx} {a b : Expr} {ta tb : DE} {pos : Pos}
theorem op_inX (hu : X.A.units + 65 < cLine) : OpR X (compareOp .In) (rInX X.K false) := by
  intro pins s σ H x y v u Q I rx ry h
  obtain ⟨d, e, es, hd, he, ht, sd, se, q⟩ := h
  obtain ⟨as, r1⟩ := Dp.reads I d x v hd rx
  obtain ⟨bs, r2⟩ := Dp.reads I e y u he ry
  rcases ht with rfl | rfl
  · exact SeqAt.in_list_reads r2 r1 (SeqAt.canLay_of_shaped se) (SeqAt.canLay_of_shaped sd) (room_in_shaped sd hu) ⟨.bl _, H, I, rfl, q⟩
  · exact SeqAt.in_tuple_reads r2 r1 (SeqAt.canLay_of_shaped se) (SeqAt.canLay_of_shaped sd) (room_in_shaped sd hu) ⟨.bl _, H, I, rfl, q⟩
theorem op_notInX (hu : X.A.units + 65 < cLine) : OpR X (compareOp .NotIn) (rInX X.K true) := by
  intro pins s σ H x y v u Q I rx ry h
  obtain ⟨d, e, es, hd, he, ht, sd, se, q⟩ := h
  obtain ⟨as, r1⟩ := Dp.reads I d x v hd rx
  obtain ⟨bs, r2⟩ := Dp.reads I e y u he ry
  rcases ht with rfl | rfl
  · exact SeqAt.notIn_list_reads r2 r1 (SeqAt.canLay_of_shaped se) (SeqAt.canLay_of_shaped sd) (room_in_shaped sd hu) ⟨.bl _, H, I, rfl, q⟩
  · exact SeqAt.notIn_tuple_reads r2 r1 (SeqAt.canLay_of_shaped se) (SeqAt.canLay_of_shaped sd) (room_in_shaped sd hu) ⟨.bl _, H, I, rfl, q⟩
theorem ok_inX {K : Fg} {neg : Bool} : BinOk K (rInX K neg) (fInD neg) := fun F H x y d e post Q hx r1 r2 hf k => by
  cases e with
  | tuple es =>
    obtain ⟨h1, h2, h3⟩ := hf
    exact ⟨d, _, es, r1.dp hx d x (shaped_lay h1), r2.dp hx _ y (shaped_lay h2), .inr rfl, h1, h2, k _ _ H F h3 (Gr.refl hx) (.bl _)⟩
  | list es =>
    obtain ⟨h1, h2, h3⟩ := hf
    exact ⟨d, _, es, r1.dp hx d x (shaped_lay h1), r2.dp hx _ y (shaped_lay h2), .inl rfl, h1, h2, k _ _ H F h3 (Gr.refl hx) (.bl _)⟩
  | _ => exact hf.elim
theorem Room.units1 {k : Nat} {A : Around} (r : Room k A) : A.units + 65 < cLine := by have := r.un; omega
theorem e_inX {k : Nat} (hr : Room k X.A) (ha : PE X a (up X.K ta)) (hb : PE X b (up X.K tb)) (hm : behindInMarks .In b = false := by rfl) : PE X (.Compare a [.In] [b] pos) (up X.K (dBin (fInD false) ta tb)) := e_cmp (op_inX (Room.units1 hr)) ok_inX ha hb hm
theorem e_notinX {k : Nat} (hr : Room k X.A) (ha : PE X a (up X.K ta)) (hb : PE X b (up X.K tb)) (hm : behindInMarks .NotIn b = false := by rfl) : PE X (.Compare a [.NotIn] [b] pos) (up X.K (dBin (fInD true) ta tb)) := e_cmp (op_notInX (Room.units1 hr)) ok_inX ha hb hm
theorem t_inX {k : Nat} (hr : Room k X.A) (ha : PE X a (up X.K ta)) (hb : PE X b (up X.K tb)) (hm : behindInMarks .In b = false := by rfl) : PT X (.Compare a [.In] [b] pos) (upT X.K (dTest (dBin (fInD false) ta tb))) := t_cmp (op_inX (Room.units1 hr)) ok_inX ha hb hm
theorem t_notinX {k : Nat} (hr : Room k X.A) (ha : PE X a (up X.K ta)) (hb : PE X b (up X.K tb)) (hm : behindInMarks .NotIn b = false := by rfl) : PT X (.Compare a [.NotIn] [b] pos) (upT X.K (dTest (dBin (fInD true) ta tb))) := t_cmp (op_notInX (Room.units1 hr)) ok_inX ha hb hm
/-! ### a list times an int -/
def repD (ds : List Da) (n : Nat) : List Da := (List.replicate n ds).flatten
def fMulL : BinF := fun d e post => match d, e with
  | .list ds, .int i => 0 ≤ i ∧ i ≤ 1000000 ∧ ds.length * i.toNat ≤ 1000000 ∧ post (.list (repD ds i.toNat))
  | _, _ => False
theorem vals_app : ∀ {xs ys : List V} {us vs : List Value}, Vals xs us → Vals ys vs → Vals (xs ++ ys) (us ++ vs)
  | _, _, _, _, .nil, h => h
  | _, _, _, _, .cons h t, k => .cons h (vals_app t k)
theorem vals_rep {xs : List V} {us : List Value} (h : Vals xs us) : ∀ n : Nat, Vals ((List.replicate n xs).flatten) ((List.replicate n us).flatten)
  | 0 => .nil
  | n + 1 => by
    rw [List.replicate_succ, List.replicate_succ, List.flatten_cons, List.flatten_cons]
    exact vals_app h (vals_rep h n)
theorem rps_app {K : Fg} {F : Hp} : ∀ {xs ys : List V} {us vs : List Da}, Rps K F xs us → Rps K F ys vs → Rps K F (xs ++ ys) (us ++ vs)
  | _, _, _, _, .nil, h => h
  | _, _, _, _, .cons h t, k => .cons h (rps_app t k)
theorem rps_rep {K : Fg} {F : Hp} {xs : List V} {us : List Da} (h : Rps K F xs us) : ∀ n : Nat, Rps K F ((List.replicate n xs).flatten) ((List.replicate n us).flatten)
  | 0 => .nil
  | n + 1 => by
    rw [List.replicate_succ, List.replicate_succ, List.flatten_cons, List.flatten_cons]
    exact rps_app h (rps_rep h n)
theorem len_rep {α : Type} (xs : List α) : ∀ n : Nat, ((List.replicate n xs).flatten).length = xs.length * n
  | 0 => rfl
  | n + 1 => by
    rw [List.replicate_succ, List.flatten_cons, List.length_append, len_rep xs n, Nat.mul_succ]
    omega
theorem foldl_rep (items : Array Value) : ∀ (k : Nat) (acc : Array Value), List.foldl (fun x1 x2 => x1 ++ x2) acc (List.replicate k items) = (acc.toList ++ (List.replicate k items.toList).flatten).toArray
  | 0, acc => by simp
  | k + 1, acc => by simp [List.replicate_succ, foldl_rep items k, List.append_assoc]
theorem op_mulL : OpR X (binaryOp .Mult) (fun x y H Q => ∃ a xs i, x = V.ref a ∧ y = V.int i ∧ SqL X.K H a xs ∧ 0 ≤ i ∧ i ≤ 1000000 ∧ xs.length * i.toNat ≤ 1000000 ∧ ∀ p, H p = none → Q (.ref p) (upd H p (.lst ((List.replicate i.toNat xs).flatten)))) := by
  intro pins s σ H x y v u Q I rx ry h
  obtain ⟨a, xs, k, rfl, rfl, hs, k0, k1, kl, q⟩ := h
  obtain rfl : v = Value.ref a := rx
  obtain ⟨t, rfl⟩ := ry
  obtain ⟨its, rv, ⟨⟨cls, dd, data, sl⟩, n, ho, hc, hdn, hd⟩, hlen⟩ := I.list hs
  have hc1 : cls = Value.type "list" := hc
  have hd1 : data = Data.seq its.toArray n := hd
  subst hc1 hd1
  have hl := rv.length
  have hsl := sizeLine_eq
  have hm : its.toArray.size * k.toNat ≤ 1000000 := by rw [List.size_toArray, ← hl]; exact kl
  refine wpAny_binaryOp_repeat_ref (T := "list") (U := "int") (by decide) ⟨_, ho, rfl⟩ (fun s' => rfl) noFill_list_mul F.fills_int_mul F.slot_int_rmul repeat_list F.slot_int_index.lookup
    (call_meets F.slot_int_rmul rfl F.entry_int_rmul (F.args_int_rmul_2 _ _) (lm_int_rmul_list_any k t a its.toArray n dd sl)
      ⟨ho, rfl, ⟨_, ho, rfl⟩, call_meets F.slot_list_mul ⟨_, ho, rfl⟩ F.entry_list_mul (F.args_list_mul_2 _ _)
        (lm_list_mul_any a its.toArray n dd sl k t ?_ (by omega) (by simp only [Builtin.List.listTooLong, decide_eq_true_eq]; omega))
        ⟨ho, ?_⟩⟩)
  · have : Builtin.List.listFitsIndex k = true := by
      unfold Builtin.List.listFitsIndex
      simp
      constructor <;> omega
    rw [this]
    decide
  · have e : List.foldl (fun x1 x2 => x1 ++ x2) #[] (List.replicate (if its.toArray.isEmpty = true then 0 else k.toNat) its.toArray) = ((List.replicate k.toNat its).flatten).toArray := by
      rw [foldl_rep]
      cases its with
      | nil =>
        have : ∀ n : Nat, (List.replicate n ([] : List Value)).flatten = [] := fun n => by induction n <;> simp_all [List.replicate_succ]
        simp [this]
      | cons x xs => simp
    rw [e]
    refine ⟨.ref s.heap.objs.size, upd H s.heap.objs.size (.lst ((List.replicate k.toNat xs).flatten)), I.laid (t' := s.toks) (fun b o e => Heap.get?_push_of_some _ e) (Nat.le_refl _) ⟨?_, _, 0, ?_, Heap.get?_push_size _ rfl⟩, rfl, q _ (I.hok.fresh (Nat.le_refl _))⟩
    · rw [len_rep]
      omega
    · exact vals_rep rv _
theorem ok_mulL {K : Fg} : BinOk K (fun x y H Q => ∃ a xs i, x = V.ref a ∧ y = V.int i ∧ SqL K H a xs ∧ 0 ≤ i ∧ i ≤ 1000000 ∧ xs.length * i.toNat ≤ 1000000 ∧ ∀ p, H p = none → Q (.ref p) (upd H p (.lst ((List.replicate i.toNat xs).flatten)))) fMulL := fun F H x y d e post Q hx r1 r2 hf k => by
  cases d with
  | list ds =>
    cases e with
    | int i =>
      obtain ⟨h0, h1, h2, h3⟩ := hf
      cases r1 with
      | lst sq m =>
        rename_i aa xs
        cases r2
        refine ⟨_, xs, i, rfl, rfl, .inl (.inl (hx _ _ sq)), h0, h1, by rw [m.len]; exact h2, fun p hp => ?_⟩
        have gr := Gr.new (o := .lst ((List.replicate i.toNat xs).flatten)) hx hp
        exact k _ _ _ _ h3 gr (.lst upd_same ((rps_rep m _).up gr.f))
    | _ => exact hf.elim
  | _ => exact hf.elim
theorem e_mulL (ha : PE X a (up X.K ta)) (hb : PE X b (up X.K tb)) : PE X (.BinOp a .Mult b pos) (up X.K (dBin fMulL ta tb)) := e_bin op_mulL ok_mulL ha hb
end
/-! ### a comprehension with any target -/
theorem lc_mapT {sl : List (Option Sv)} {t : DG} {te : DE} (f : Da → Da) {Q : List Da → Option Nat → Prop} {fu : Option Nat} : ∀ {ds acc : List Da},
    (∀ x ∈ ds, ∀ (R : Rv → Gs → Prop) (N : Gs → Prop), (∀ g3 : Gs, g3.fu = fu → R (.val (f x)) g3) → t (.val x) ⟨sl, fu, false⟩ fun g1 => (true = true → te g1 R) ∧ (true = false → N g1)) → acc.length + ds.length ≤ 1000000 → Q (acc ++ ds.map f) fu → lcD sl t dYes te ds acc fu Q
  | [], acc, _, _, h => by rw [List.map_nil, List.append_nil] at h; exact h
  | x :: xs, acc, hs, hl, h => by
    have ih : lcD sl t dYes te xs (acc ++ [f x]) fu Q := lc_mapT f (fun y hy => hs y (List.mem_cons_of_mem _ hy)) (by rw [List.length_cons] at hl; rw [List.length_append, List.length_cons, List.length_nil]; omega) (by rw [List.append_assoc]; exact h)
    exact hs x List.mem_cons_self (fun r g3 => match r with
      | .val d => acc.length < 1000000 ∧ lcD sl t dYes te xs (acc ++ [d]) (fuN fu g3.fu) Q
      | _ => False) (fun g2 => lcD sl t dYes te xs acc (fuN fu g2.fu) Q) (fun g3 e => ⟨by rw [List.length_cons] at hl; omega, by rw [e, fuN_self]; exact ih⟩)
/-! ### chains as data -/
def stD (s : Int × Ru) : Da := .tuple [.int s.1, .str s.2.s]
def chD (c : List (Int × Ru)) : Da := .tuple (c.map stD)
theorem stD_inj {s s' : Int × Ru} (h : stD s = stD s') : s = s' := by
  obtain ⟨w, r⟩ := s
  obtain ⟨w', r'⟩ := s'
  simp only [stD, PyData.tuple.injEq, List.cons.injEq, PyData.int.injEq, PyData.str.injEq, and_true] at h
  obtain ⟨rfl, h⟩ := h
  refine Prod.ext rfl ?_
  revert h
  cases r <;> cases r' <;> first | exact fun _ => rfl | (intro h; exact absurd h (by decide +kernel))
/-- pairs of an int and a text: may be sorted -/
theorem pairs_sortable {ds : List Da} (h : ∀ d ∈ ds, ∃ (i : Int) (x : Str), d = .tuple [.int i, .str x] ∧ PyData.strOk x = true) :
    PySem.W.AllAlike ds ∧ PySem.W.Sortable ds ∧ ∀ d ∈ ds, d.canLay0 = true ∧ d.depth ≤ 50 := by
  refine ⟨fun d hd e he => ?_, .inl fun d hd => ?_, fun d hd => ?_⟩
  · obtain ⟨i, x, rfl, _⟩ := h d hd
    obtain ⟨j, y, rfl, _⟩ := h e he
    simp [PySem.W.alike, PySem.W.alikeAll]
  · obtain ⟨i, x, rfl, _⟩ := h d hd
    exact ⟨_, _, rfl⟩
  · obtain ⟨i, x, rfl, hx⟩ := h d hd
    refine ⟨?_, ?_⟩
    · simp [PyData.canLay0, PyData.canLayAll0, hx]
    · simp [PyData.depth, PyData.depthAll]
theorem ru_ok (r : Ru) : PyData.strOk r.s = true := by cases r <;> decide +kernel
end Z

namespace Z
open L2 PySem PySem.Spec PyProof.Rows
open Evl (Ex ex_l ex_t ex_rd fresh_back)
/-! ### numbers of bounded value, chains applied -/
theorem powB2 {k e : Int} {a : Nat} (hk : 0 < k) (bk : Bn 102 k) (h1 : -(a : Int) - 100 ≤ e) (h2 : e ≤ a) : 0 < (powI k e).1 ∧ 0 < (powI k e).2 ∧ Int.gcd (powI k e).1 (powI k e).2 = 1 ∧ Bn (a + 300) (powI k e).1 ∧ Bn (a + 300) (powI k e).2 := by
  obtain ⟨p, q⟩ := scI_pos (f := e) hk (show (0 : Int) < 1 by decide)
  obtain ⟨h3, h4, h5, h6, h7⟩ := low_pos p q
  have b1 : Bn (a + 300) (scI k 1 e).1 := (shlB bk).mono (by omega)
  have b2 : Bn (a + 300) (scI k 1 e).2 := (shlB (Bn.small (m := 64) (i := 1) (by decide) (by decide) (by decide))).mono (by omega)
  exact ⟨h3, h4, h5, b1.le (Int.le_of_lt h3) h6, b2.le (Int.le_of_lt h4) h7⟩
/-- a number of values from 2^-a to 2^a -/
structure NuB (a : Nat) (n d : Int) : Prop where
  nu : Nu n d
  v : Vb a n d
  bn : Bn (a + 300) n
  bd : Bn (a + 300) d
theorem bn_le {a : Nat} {n : Int} (h : Bn a n) (h0 : 0 < n) : n ≤ 2 ^ a := by
  have h1 := h.lt
  have e : ((2 ^ a : Nat) : Int) = (2 : Int) ^ a := by norm_cast
  omega
theorem NuB.of {a : Nat} {n d : Int} (hn : 0 < n) (hd : 0 < d) (hg : Int.gcd n d = 1) (bn : Bn a n) (bd : Bn a d) : NuB a n d := by
  have x := bn_le bn hn
  have y := bn_le bd hd
  have p := pow2_pos a
  refine ⟨⟨hn, hd, hg⟩, ⟨?_, ?_⟩, bn.mono (by omega), bd.mono (by omega)⟩
  · have := Int.mul_le_mul_of_nonneg_right (show 1 ≤ d by omega) (Int.le_of_lt p)
    omega
  · have := Int.mul_le_mul_of_nonneg_right (show 1 ≤ n by omega) (Int.le_of_lt p)
    omega
theorem NuB.mono {a b : Nat} {n d : Int} (h : NuB a n d) (hab : a ≤ b) : NuB b n d := by
  have p := pow_le2 hab
  have x := Int.mul_le_mul_of_nonneg_left p (Int.le_of_lt h.nu.d0)
  have y := Int.mul_le_mul_of_nonneg_left p (Int.le_of_lt h.nu.n0)
  have := h.v.hi
  have := h.v.lo
  exact ⟨h.nu, ⟨by omega, by omega⟩, h.bn.mono (by omega), h.bd.mono (by omega)⟩
theorem NuB.round {a : Nat} {n d w : Int} (h : NuB a n d) (r : Ru) (h1 : 1 ≤ w) (h2 : w ≤ 100) : NuB a (roundI n d w r).1 (roundI n d w r).2 := by
  have hv := vb_round r h.nu h.v h1
  have hn := (round_nu r h.nu h1).1
  by_cases f : (posI n d w).1 = 0
  · rw [round_self r f]
    exact h
  obtain ⟨e1, e2⟩ := vb_e h.nu h.v h1 h2
  obtain ⟨s, e, s1, s2, s3⟩ := thr_step (byR r) h.nu h1
  refine ⟨hn, hv, ?_, ?_⟩ <;> rw [thr_round r h.nu.n0 h.nu.d0 h.nu.g h1, e]
  all_goals
    have s0 : 0 < s := Int.lt_of_lt_of_le (pow2_pos _) s1
    have bs : Bn 102 s := (Bn.pow2 (n := w.toNat) (m := 102) (by omega)).le (Int.le_of_lt s0) s2
    obtain ⟨_, _, _, b1, b2⟩ := powB2 s0 bs e1 e2
  · exact b1
  · exact b2
structure Chn1 (c : List (Int × Ru)) : Prop where
  ne : c ≠ []
  len : c.length ≤ 12
  w : Wds c
theorem appl_B {a : Nat} : ∀ {c : List (Int × Ru)} {n d : Int}, Wds c → NuB a n d → NuB a (applI n d c).1 (applI n d c).2
  | [], _, _, _, h => h
  | s :: c, n, d, hw, h => by
    rw [applI]
    exact appl_B hw.tl (h.round s.2 hw.hd.1 hw.hd.2)
theorem appl_self : ∀ {c : List (Int × Ru)} {n d w : Int}, Nu n d → 1 ≤ w → (posI n d w).1 = 0 → (∀ s ∈ c, w ≤ s.1) → applI n d c = (n, d)
  | [], _, _, _, _, _, _, _ => rfl
  | s :: c, n, d, w, h, hw, f, hs => by
    rw [applI, round_self s.2 (fits_mono h hw (hs s List.mem_cons_self) f)]
    exact appl_self h hw f fun t ht => hs t (List.mem_cons_of_mem _ ht)
theorem appl_fits {c : List (Int × Ru)} {n d : Int} (hc : Chn1 c) (h : Nu n d) : (posI (applI n d c).1 (applI n d c).2 (chT c).1).1 = 0 := by
  rw [chain_law hc.ne hc.w h]
  exact (thr_nu _ h (chT_B hc.ne hc.w).2.1).2
theorem thr_ends {n d w : Int} {T : Bool → Th} (hT : ∀ b, (T b).Ok) (h : Nu n d) (hw : 1 ≤ w) : thrI n d w T = (endsI n d w).1 ∨ thrI n d w T = (endsI n d w).2 := by
  by_cases f : (posI n d w).1 = 0
  · rw [thr_self hT h.n0 h.d0 h.g hw f]
    unfold endsI
    rw [if_pos f]
    exact .inl rfl
  · obtain ⟨s, e, _, _, e2⟩ := thr_step T h hw
    rw [e]
    unfold endsI
    rw [if_neg f]
    rcases e2 with e2 | e2 <;> rw [e2]
    · exact .inl rfl
    · exact .inr rfl
theorem appl_ends {c : List (Int × Ru)} {n d : Int} (hc : Chn1 c) (h : Nu n d) : applI n d c = (endsI n d (chT c).1).1 ∨ applI n d c = (endsI n d (chT c).1).2 := by
  rw [chain_law hc.ne hc.w h]
  exact thr_ends (chT_ok hc.w) h (chT_B hc.ne hc.w).2.1
theorem ends_self {n d w : Int} (f : (posI n d w).1 = 0) : endsI n d w = ((n, d), (n, d)) := by
  unfold endsI
  rw [if_pos f]
theorem in_two {x a b : Int × Int} (h : x = a ∨ x = b) : inD (nm x) [nm a, nm b] = true := by
  unfold inD
  rw [List.any_cons, List.any_cons, List.any_nil, eqv_num, eqv_num]
  rcases h with rfl | rfl <;> simp
theorem shaped_nums (a b c d : Int) : SeqAt.shaped (.tuple [num a b, num c d]) = true := rfl
theorem eqv_nums (a b c d a' b' c' d' : Int) : (PyData.tuple [.tuple [.int a, .int b], .tuple [.int c, .int d]]).eqv (.tuple [.tuple [.int a', .int b'], .tuple [.int c', .int d']]) = (decide (a = a') && decide (b = b') && (decide (c = c') && decide (d = d'))) := by
  simp only [PyData.eqv, PyData.eqvAll]
  rw [Bool.eq_iff_iff]
  simp
end Z

namespace Z
open L2 PySem PySem.Spec PyProof.Rows
open Evl (Ex ex_l ex_t ex_rd fresh_back)
/-! ### thresholds as data -/
def sdS : Bool → Str
  | true => "up"
  | false => "down"
def thD (t : Th) : Da := .tuple [num t.n t.d, .str (sdS t.up)]
def prF (T : Bool → Th) : Da := .tuple [thD (T false), thD (T true)]
def prD (w : Int) (T : Bool → Th) : Da := .tuple [if w = 1 then .none else thD (T false), thD (T true)]
theorem sd_ok (b : Bool) : PyData.strOk (sdS b) = true := by cases b <;> decide +kernel
theorem shaped_sd (b : Bool) : SeqAt.shaped (.str (sdS b)) = true := by cases b <;> decide +kernel
theorem shaped_up : SeqAt.shaped (.str "up") = true := shaped_sd true
theorem shaped_dn : SeqAt.shaped (.str "down") = true := shaped_sd false
theorem eqv_up (b : Bool) : (PyData.str (sdS b)).eqv (.str "up") = b := by cases b <;> decide +kernel
theorem eqv_dn (b : Bool) : (PyData.str (sdS b)).eqv (.str "down") = !b := by cases b <;> decide +kernel
theorem dec_up (b : Bool) : (sdS b = ("up" : Str)) ↔ b = true := by cases b <;> decide +kernel
theorem dec_dn (b : Bool) : (sdS b = ("down" : Str)) ↔ b = false := by cases b <;> decide +kernel
theorem atI_par {α : Type} {x y : α} {i : Int} (h0 : 0 ≤ i) (h1 : i ≤ 1) : atI [x, y] i = some (if i = 1 then y else x) := by
  by_cases h : i = 1
  · subst h; rfl
  · have : i = 0 := by omega
    subst this; rfl
theorem mod2 (k : Int) : 0 ≤ k % 2 ∧ k % 2 ≤ 1 := by omega
theorem pick_par {T : Bool → Th} {k : Int} : atI [thD (T false), thD (T true)] (k % 2) = some (thD (T (decide (k % 2 = 1)))) := by
  rw [atI_par (mod2 k).1 (mod2 k).2]
  by_cases h : k % 2 = 1
  · rw [if_pos h, decide_eq_true h]
  · rw [if_neg h, decide_eq_false h]
theorem Bn.leP {m : Nat} {i : Int} (h0 : 0 ≤ i) (h : i ≤ 2 ^ m) : Bn (m + 1) i := (Bn.pow2 (n := m) (m := m + 1) (by omega)).le h0 h
theorem ThB.bn {m : Nat} {T : Bool → Th} (h : ThB m T) (b : Bool) : Bn (m + 1) (T b).n ∧ Bn (m + 1) (T b).d :=
  ⟨Bn.leP (h.ok b).n0 (Int.le_trans (h.ok b).nd (h.l b)), Bn.leP (Int.le_of_lt (h.ok b).d0) (h.l b)⟩
/-- at width 1 the cell is odd -/
theorem cell_w1 {n d : Int} (hn : 0 < n) (hd : 0 < d) : (cellI n d 1).1 = 1 := by
  obtain ⟨_, c2, c3, _⟩ := cellI_spec hn hd (show (1 : Int) ≤ 1 by decide)
  have e1 : (2 : Int) ^ ((1 : Int) - 1).toNat = 1 := rfl
  have e2 : (2 : Int) ^ (1 : Int).toNat = 2 := rfl
  rw [e1] at c2
  rw [e2] at c3
  omega
theorem pick_prD {T : Bool → Th} {n d w : Int} (hn : 0 < n) (hd : 0 < d) :
    atI [if w = 1 then PyData.none else thD (T false), thD (T true)] ((cellI n d w).1 % 2) = some (thD (T (decide ((cellI n d w).1 % 2 = 1)))) := by
  by_cases h : w = 1
  · subst h
    rw [cell_w1 hn hd]
    rfl
  · rw [if_neg h]
    exact pick_par
theorem NuB.thr {a : Nat} {n d w : Int} (h : NuB a n d) {T : Bool → Th} (h1 : 1 ≤ w) (h2 : w ≤ 100) : Nu (thrI n d w T).1 (thrI n d w T).2 ∧ Bn (a + 300) (thrI n d w T).1 ∧ Bn (a + 300) (thrI n d w T).2 := by
  have hn := (thr_nu T h.nu h1).1
  obtain ⟨e1, e2⟩ := vb_e h.nu h.v h1 h2
  obtain ⟨s, e, s1, s2, s3⟩ := thr_step T h.nu h1
  have s0 : 0 < s := Int.lt_of_lt_of_le (pow2_pos _) s1
  have bs : Bn 102 s := (Bn.pow2 (n := w.toNat) (m := 102) (by omega)).le (Int.le_of_lt s0) s2
  obtain ⟨_, _, _, b1, b2⟩ := powB2 s0 bs e1 e2
  refine ⟨hn, ?_, ?_⟩ <;> rw [e]
  · exact b1
  · exact b2
theorem pos_nn {n d w : Int} (hn : 0 < n) (hd : 0 < d) (hw : 1 ≤ w) : 0 ≤ (posI n d w).1 ∧ (posI n d w).1 ≤ (posI n d w).2 ∧ 0 < (posI n d w).2 := by
  obtain ⟨p, q, he⟩ : ∃ p q : Nat, (cellI n d w).2 = (p : Int) - q := ⟨((cellI n d w).2).toNat, (-(cellI n d w).2).toNat, by omega⟩
  obtain ⟨c1, c2, c3, c4⟩ := cell_pq hn hd hw p q he
  have hb := Int.mul_pos hd (pow2_pos p)
  have m0 := Int.emod_nonneg (n * 2 ^ q) (show d * 2 ^ p ≠ 0 by omega)
  by_cases z : (posI n d w).1 = 0
  · have g := (low_gcd (n := n * 2 ^ q % (d * 2 ^ p)) hb).2.1
    rw [← c4] at g
    omega
  · have := pos_rng hn hd hw z
    omega
/-- sizes of the position -/
theorem pos_BB {a b : Nat} {n d w : Int} (h : Nu n d) (v : Vb a n d) (bn : Bn b n) (bd : Bn b d) (h1 : 1 ≤ w) (h2 : w ≤ 100) : Bn (b + a + 2) (posI n d w).1 ∧ Bn (b + a + 2) (posI n d w).2 := by
  obtain ⟨e1, e2⟩ := vb_e h v h1 h2
  obtain ⟨c1, c2, c3, c4⟩ := cell_pq h.n0 h.d0 h1 ((cellI n d w).2).toNat (-(cellI n d w).2).toNat (by omega)
  have hb := Int.mul_pos h.d0 (pow2_pos ((cellI n d w).2).toNat)
  obtain ⟨_, g2, g3⟩ := low_gcd (n := n * 2 ^ (-(cellI n d w).2).toNat % (d * 2 ^ ((cellI n d w).2).toNat)) hb
  rw [← c4] at g2 g3
  have bb : Bn (b + a + 2) (d * 2 ^ ((cellI n d w).2).toNat) := (shlB bd).mono (by omega)
  obtain ⟨p0, p1, _⟩ := pos_nn h.n0 h.d0 h1
  exact ⟨bb.le p0 (by omega), bb.le (Int.le_of_lt g2) g3⟩
end Z

namespace Z
open L2 PySem PySem.Spec PyProof.Rows
open Evl (Ex ex_l ex_t ex_rd fresh_back)
/-! ### small dicts, written in the text -/
def dD0 : DE := fun g Q => Q (.val (.dict [])) g
def dD1 (x : Str) (i : Nat) : DE := fun g Q => match g.sl[i]? with
  | some (some (.val d)) => Q (.val (.dict [(.str x, d)])) g
  | _ => False
section
variable {X : Cx} {pos : Pos} {k e : Expr}
theorem e_d0 : PE X (.Dict [] [] pos) (up X.K dD0) := pe_to pe_dnewK fun σ H Q q => by
  obtain ⟨c, g, tv, tr, F, a, post, s, t, k⟩ := q
  intro p hp
  have gr := Gr.new (o := .dK []) s.eh hp
  exact k _ g _ _ _ a t ((s.grow gr).push (r := .val (.dict [])) (.dct (.inl upd_same) .nil))
theorem upd_twice {H : Hp} {p : Addr} {a b : HO} : upd (upd H p a) p b = upd H p b := by
  funext q
  by_cases h : q = p
  · subst h; rw [upd_same, upd_same]
  · rw [upd_ne h, upd_ne h, upd_ne h]
theorem e_d1 {x : Str} (i : Nat) (hk : PE X k (tC (.str x))) (hv : PE X e (tVar i)) : PE X (.Dict [some k] [e] pos) (up X.K (dD1 x i)) := pe_to (pe_disp (pps_cons hk hv pps_nil) rfl rfl (by simp) (by simp)) fun σ H Q q => by
  obtain ⟨c, g, tv, tr, F, a, post, s, t, k⟩ := q
  unfold dD1 at t
  split at t
  · rename_i d hd
    obtain ⟨v, h1, h2⟩ := s.slot i _ hd
    intro p hp
    refine ⟨v, h1, upd_same, [(.inr x, v)], rfl, by simp, ?_⟩
    rw [upd_twice]
    have gr := Gr.new (o := .dK [(.inr x, v)]) s.eh hp
    exact k _ g _ _ _ a t ((s.grow gr).push (r := .val (.dict [(.str x, d)])) (.dct (.inl upd_same) (.cons (h2.mono gr.f _ _) .nil)))
  · exact t.elim
end
theorem kdct_of2 {K : Fg} {w : World} {a : Addr} {es : Array DictEntry} {n : Nat} {x : Str} {u : Value} {v : V} (h : K.lookup a = some ⟨.type "dict", none, .dict es n, #[]⟩) (hk : PySem.W.KeysLit w.params es.toList) (hx : PySem.W.nsIn K a x = some (some u)) (r : RelV v u) : KDct K w a x v :=
  ⟨es, n, u, h, hk, hx, r⟩
end Z

namespace Z
open L2 PySem PySem.Spec PyProof.Rows
open Evl (Ex ex_l ex_t ex_rd fresh_back)
/-- a comprehension that draws at most c times each turn -/
theorem lc_drawV {sl : List (Option Sv)} {i : Nat} {te : DE} (P : Da → Prop) (c : Nat) {Q : List Da → Option Nat → Prop} : ∀ {ds acc : List Da} {k : Nat}, c * ds.length ≤ k →
    (∀ x ∈ ds, ∀ (m : Nat) (R : Rv → Gs → Prop), (∀ (z : Da) (g3 : Gs) (m' : Nat), P z → g3.fu = some m' → m ≤ m' → R (.val z) g3) → te (Gs.set ⟨sl, some (m + c), false⟩ i (.val x)) R) → acc.length + ds.length ≤ 1000000 →
    (∀ (zs : List Da) (m' : Nat), zs.length = ds.length → (∀ z ∈ zs, P z) → k ≤ m' + c * ds.length → Q (acc ++ zs) (some m')) → lcD sl (dN i) dYes te ds acc (some k) Q
  | [], acc, k, hk, _, _, h => by
    have := h [] k rfl (fun z hz => by simp at hz) (by simp)
    rw [List.append_nil] at this
    exact this
  | x :: xs, acc, k, hk, hs, hl, h => by
    rw [List.length_cons, Nat.mul_succ] at hk
    obtain ⟨k1, rfl⟩ : ∃ k1, k = k1 + c := ⟨k - c, by omega⟩
    refine ⟨fun _ => hs x List.mem_cons_self k1 _ fun z g3 m' hz e3 hm => ⟨?_, ?_⟩, fun z => nomatch z⟩
    · rw [List.length_cons] at hl; omega
    · rw [e3]
      refine lc_drawV P c (by omega) (fun y hy => hs y (List.mem_cons_of_mem _ hy)) ?_ fun zs m2 h1 h2 h3 => ?_
      · rw [List.length_cons] at hl
        rw [List.length_append, List.length_cons, List.length_nil]
        omega
      · rw [List.append_assoc]
        refine h (z :: zs) m2 (by simp [h1]) (fun y hy => ?_) (by rw [List.length_cons, Nat.mul_succ]; omega)
        rcases List.mem_cons.mp hy with rfl | hy
        · exact hz
        · exact h2 y hy
end Z

namespace Z
open L2 PySem PySem.Spec PyProof.Rows
open Evl (Ex ex_l ex_t ex_rd fresh_back)
/-! ### tuples: + and slices without a condition; a, b = e, [..] -/
def fAddT : BinF := fun d e post => match d, e with
  | .tuple xs, .tuple ys => xs.length + ys.length ≤ sizeLine ∧ post (.tuple (xs ++ ys))
  | _, _ => False
def dSlT (ta : DE) (tl th : DO) : DE := fun g Q => ta g fun x g1 => tl g1 fun lo g2 => th g2 fun hi g3 => match x with
  | .val (.tuple ds) => Q (.val (.tuple (cutD ds lo hi))) g3
  | _ => False
def dParR (i j : Nat) (te : DE) (tl : DL) : DS := fun d g => te g fun r g1 => tl g1 fun ds g2 => d.nx ((g2.set j (.own ds)).set i (rsv r))
section
variable {X : Cx} {a b : Expr} {ta tb : DE} {pos : Pos}
theorem e_addT (ha : PE X a (up X.K ta)) (hb : PE X b (up X.K tb)) : PE X (.BinOp a .Add b pos) (up X.K (dBin fAddT ta tb)) := by
  refine e_bin op_catA ?_ ha hb
  intro F H x y d e post Q hx r1 r2 hf k
  cases d with
  | tuple ds =>
    cases e with
    | tuple es =>
      cases r1 with
      | tup s1 m1 =>
        cases r2 with
        | tup s2 m2 =>
          rename_i p1 xs p2 ys
          obtain ⟨h2, h3⟩ := hf
          refine ⟨p1, p2, xs, ys, rfl, rfl, ex_t hx s1, ex_t hx s2, by rw [m1.len, m2.len]; exact h2, fun z => ?_, fun _ z => ?_, fun _ _ p hp => ?_⟩
          · have : ds = [] := m1.nil_iff.mp z
            subst this
            rw [List.nil_append] at h3
            exact k _ _ H F h3 (Gr.refl hx) (.tup s2 m2)
          · have : es = [] := m2.nil_iff.mp z
            subst this
            rw [List.append_nil] at h3
            exact k _ _ H F h3 (Gr.refl hx) (.tup s1 m1)
          · have gr := Gr.new (o := .tup (xs ++ ys)) hx hp
            exact k _ _ _ _ h3 gr (.tup (.inl (.inl upd_same)) ((m1.up gr.f).app (m2.up gr.f)))
    | _ => exact hf.elim
  | _ => exact hf.elim
variable {lo hi : Option Expr} {tl th : DO} {p2 : Pos}
theorem e_slT (ha : PE X a (up X.K ta)) (hl : PO X lo (upO X.K tl)) (hu : PO X hi (upO X.K th)) : PE X (.Subscript a (.Slice lo hi none p2) pos) (up X.K (dSlT ta tl th)) := pe_to (pe_slice sl_tupA ha hl hu) fun σ H Q q => by
  obtain ⟨c, g, tv, tr, F, ad, post, s, t, k⟩ := q
  refine ⟨c, g, tv, tr, F, ad, _, s, t, fun x g1 v1 H1 F1 a1 t1 s1 => ?_⟩
  refine ⟨c, g1, _, _, F1, a1, _, s1, t1, fun l g2 H2 F2 a2 t2 s2 => ?_⟩
  refine ⟨c, g2, _, _, F2, a2, _, s2, t2, fun u g3 H3 F3 a3 t3 s3 => ?_⟩
  cases x with
  | val d =>
    cases d with
    | tuple ds =>
      have hr : Rp X.K F3 v1 (.tuple ds) := s3.top
      cases hr with
      | tup sq m =>
        rename_i pp xs
        refine ⟨_, _, rfl, ex_t s3.eh sq, fun z => ?_, fun _ q hq => ?_⟩
        · have e : cutD ds l u = ds := by
            unfold cutD
            rw [← m.len, z.1, z.2, List.drop_zero, Nat.sub_zero, m.len, List.take_length]
          replace t3 : post (.val (.tuple (cutD ds l u))) g3 := t3
          rw [e] at t3
          exact k _ g3 _ _ _ a3 t3 (s3.pop1.push (r := .val (.tuple ds)) (.tup sq m))
        · have gr := Gr.new (o := .tup (cutV xs l u)) s3.eh hq
          exact k _ g3 _ _ _ a3 t3 ((s3.pop1.grow gr).push (r := .val (.tuple (cutD ds l u))) (.tup (.inl (.inl upd_same)) ((m.cut l u).up gr.f)))
    | _ => exact t3.elim
  | _ => exact t3.elim
theorem s_parR {i j : Nat} {x y : Str} {te : DE} {tl : DL} {px py pt : Pos} {kt k2 : Nat} {pt2 : Pos} (hc : X.calm = true) (hN : X.N.Nodup) (hi : X.N[i]? = some x) (hj : X.N[j]? = some y) (hij : i ≠ j)
    (hx : X.env.scope.names.lookup x = some .local) (hy : X.env.scope.names.lookup y = some .local) (ha : PE X a (up X.K te)) (hb : PE X b (upL X.K tl))
    (hsw : swappedStores [.Tuple [.Name x px, .Name y py] kt pt] (.Tuple [a, b] k2 pt2) X.env = pure (some [x, y]) := by rfl) (h1 : swapsWithSole [.Tuple [.Name x px, .Name y py] kt pt] (.Tuple [a, b] k2 pt2) pos.line X.env = pure false := by rfl)
    (n1 : starEach [a, b] X.env = (false, eval a X.env) :: starEach [b] X.env := by rfl) (n2 : starEach [b] X.env = (false, eval b X.env) :: starEach [] X.env := by rfl) :
    PS X (.Assign [.Tuple [.Name x px, .Name y py] kt pt] (.Tuple [a, b] k2 pt2) pos) (upS X.K (dParR i j te tl)) := ps_to (ps_par hc hN hi hj hij hx hy (pa_cons ha (pa_cons hb pa_nil n2) n1) hsw h1) fun D σ H q => by
  obtain ⟨c, g, tv, tr, F, a, d, s, hn, t, k⟩ := q
  refine ⟨c, g, tv, tr, F, a, _, s, t, fun r g1 v H1 F1 a1 t1 s1 => ?_⟩
  refine ⟨c, g1, _, _, F1, a1, _, s1, t1, fun ds g2 w H2 F2 a2 t2 s2 n2 => ?_⟩
  refine ⟨v, w, rfl, ?_⟩
  rw [List.set_comm _ _ hij]
  exact k.nx _ _ H2 F2 a2 t2 ((s2.setOwn n2 j).set i)
end
end Z

namespace Z
open L2 PySem PySem.Spec PyProof.Rows
open Evl (Ex ex_l ex_t ex_rd fresh_back)
/-! ### thresholds found by halving -/
theorem low_dvd {n d m : Int} (hd : 0 < d) (h : d ∣ m) : (low n d).2 ∣ m := by
  obtain ⟨v, hv⟩ : (Int.gcd n d : Int) ∣ d := Int.gcd_dvd_right n d
  have g0 := gcd_pos (a := n) hd
  have e : (low n d).2 = v := by
    show d / (Int.gcd n d : Int) = v
    generalize (Int.gcd n d : Int) = g at *
    rw [hv, Int.mul_ediv_cancel_left _ (by omega)]
  rw [e]
  refine Int.dvd_trans ?_ h
  exact ⟨(Int.gcd n d : Int), by rw [Int.mul_comm]; exact hv⟩
theorem pow_dvd2 {a b : Nat} (h : a ≤ b) : (2 : Int) ^ a ∣ 2 ^ b := by
  obtain ⟨c, rfl⟩ : ∃ c, b = a + c := ⟨b - a, by omega⟩
  exact ⟨2 ^ c, Int.pow_add 2 a c⟩
def ThDv (m : Nat) (T : Bool → Th) : Prop := ∀ b, (T b).d ∣ 2 ^ m
theorem byR_dv (r : Ru) : ThDv 1 (byR r) := fun b => by cases r <;> cases b <;> decide
theorem comb_dv {m far : Nat} {T : Bool → Th} {r : Ru} (h : ThDv m T) (hT : ∀ b, (T b).Ok) : ThDv (m + far) (combI T r far) := fun b => by
  refine low_dvd (Int.mul_pos (hT _).d0 (pow2_pos far)) ?_
  rw [Int.pow_add]
  exact Int.mul_dvd_mul (h _) (Int.dvd_refl _)
theorem thF_dv : ∀ {c : List (Int × Ru)} {w : Int} {m : Nat} {T : Bool → Th}, ThDv m T → (∀ b, (T b).Ok) → Fall w c → ∃ m' : Nat, ThDv m' (thF w T c).2 ∧ (m' : Int) + (thF w T c).1 = m + w
  | [], w, m, T, h, _, _ => ⟨m, h, rfl⟩
  | s :: c, w, m, T, h, hT, hf => by
    obtain ⟨f1, f2, f3⟩ := hf
    obtain ⟨m', h1, h2⟩ := thF_dv (c := c) (comb_dv (r := s.2) (far := (w - s.1).toNat) h hT) (comb_ok hT (by omega)) f3
    exact ⟨m', h1, by show (m' : Int) + (thF s.1 _ c).1 = _; omega⟩
/-- the denominators divide half the grid -/
theorem chT_dv {c : List (Int × Ru)} {W : Int} (hc : c ≠ []) (hw : Wds c) (hW : ∀ s ∈ c, s.1 ≤ W) : ThDv (W - (chT c).1 + 1).toNat (chT c).2 := by
  cases c with
  | nil => exact absurd rfl hc
  | cons s c =>
    obtain ⟨m', h1, h2⟩ := thF_dv (c := trimI (some s.1) c) (byR_dv s.2) (byR_ok s.2) (trim_fall hw.tl)
    have := hW s List.mem_cons_self
    have e : chT (s :: c) = thF s.1 (byR s.2) (trimI (some s.1) c) := rfl
    intro b
    rw [e] at *
    refine Int.dvd_trans (h1 b) (pow_dvd2 ?_)
    omega
/-- a point of a cell of width w, unit 1 -/
theorem cell_low {x y w : Int} (hx : 0 < x) (hy : 0 < y) (hw : 1 ≤ w) (h1 : 2 ^ (w - 1).toNat ≤ x / y) (h2 : x / y < 2 ^ w.toNat) :
    cellI (low x y).1 (low x y).2 w = (x / y, 0) ∧ posI (low x y).1 (low x y).2 w = low (x % y) y := by
  obtain ⟨l1, l2, _, _, _⟩ := low_pos hx hy
  have hv := low_val (x := x) hy
  generalize low x y = z at *
  have e1 : z.1 / z.2 = x / y := div_cross l2 hy hv
  have e2 : z.1 % z.2 * y = x % y * z.2 := mod_cross l2 hy hv
  have k1 : 2 ^ (w - 1).toNat ≤ z.1 * 2 ^ 0 / (z.2 * 2 ^ 0) := by rw [Int.pow_zero, Int.mul_one, Int.mul_one, e1]; exact h1
  have k2 : z.1 * 2 ^ 0 / (z.2 * 2 ^ 0) < 2 ^ w.toNat := by rw [Int.pow_zero, Int.mul_one, Int.mul_one, e1]; exact h2
  obtain ⟨c1, c2⟩ := cell_at (p := 0) (q := 0) l1 l2 hw k1 k2
  rw [Int.pow_zero, Int.mul_one, Int.mul_one] at c1 c2
  rw [c1, c2, e1]
  exact ⟨rfl, low_cross l2 hy e2⟩
theorem pow_zero_e {k : Int} (hk : 0 < k) : powI k 0 = (k, 1) := by
  refine pow_is (p := 0) (q := 0) rfl hk (by decide) (by simp) ?_
  simp
theorem thr_low {x y w : Int} {T : Bool → Th} (hx : 0 < x) (hy : 0 < y) (hw : 1 ≤ w) (h1 : 2 ^ (w - 1).toNat ≤ x / y) (h2 : x / y < 2 ^ w.toNat) :
    thrI (low x y).1 (low x y).2 w T = (x / y + (if Abv (x % y) y (T (decide (x / y % 2 = 1))) then 1 else 0), 1) := by
  obtain ⟨c1, c2⟩ := cell_low hx hy hw h1 h2
  have k0 : 0 < x / y := Int.lt_of_lt_of_le (pow2_pos _) h1
  unfold thrI
  rw [c1, c2]
  show powI (x / y + if Abv _ _ (T (decide (x / y % 2 = 1))) then 1 else 0) 0 = _
  have hx := abv_low (x := x % y) (t := T (decide (x / y % 2 = 1))) hy
  by_cases z : Abv (x % y) y (T (decide (x / y % 2 = 1)))
  · rw [if_pos z, if_pos (hx.mpr z), pow_zero_e (by omega)]
  · rw [if_neg z, if_neg (fun q => z (hx.mp q)), Int.add_zero, pow_zero_e k0]
/-- the end of the halving -/
theorem cut_law {t : Th} {h lo : Int} (ok : t.Ok) (g : Int.gcd t.n t.d = 1) (hh : 0 < h) (hd : t.d ∣ h) (l0 : 0 ≤ lo) (l1 : lo < 2 * h) (dn : ¬Abv lo (2 * h) t) (up : lo + 1 = 2 * h ∨ Abv (lo + 1) (2 * h) t) :
    (if (lo + 1) % 2 = 0 then (low (lo + 1) (2 * h), true) else (low lo (2 * h), false)) = ((t.n, t.d), t.up) := by
  obtain ⟨q, hq⟩ := hd
  have d0 := ok.d0
  have q0 : 0 < q := by
    rw [hq] at hh
    exact Int.pos_of_mul_pos_right hh d0
  have hj : t.n * q ≤ h := by
    rw [hq]
    exact Int.mul_le_mul_of_nonneg_right ok.nd (Int.le_of_lt q0)
  have j0 : 0 ≤ t.n * q := Int.mul_nonneg ok.n0 (Int.le_of_lt q0)
  have key : ∀ m : Int, Abv m (2 * h) t ↔ (2 * (t.n * q) < m ∨ (2 * (t.n * q) = m ∧ t.up = true)) := fun m => by
    unfold Abv
    rw [show t.n * (2 * h) = (2 * (t.n * q)) * t.d by rw [hq]; grind, Int.mul_lt_mul_right d0, Int.mul_eq_mul_right_iff (by omega)]
  have el : low (2 * (t.n * q)) (2 * h) = (t.n, t.d) := by
    rw [← low_self g]
    refine low_cross (by omega) d0 ?_
    rw [hq]
    grind
  have jd : t.n * q = h → t.n = t.d := fun e => by
    rw [hq] at e
    exact Int.eq_of_mul_eq_mul_right (by omega) e
  have jz : t.n * q = 0 → t.n = 0 := fun e => by
    rcases Int.mul_eq_zero.mp e with z | z
    · exact z
    · omega
  rw [key] at dn
  rw [key] at up
  generalize t.n * q = j at *
  cases hu : t.up with
  | true =>
    have nz : j ≠ 0 := fun e => by
      have := ok.z (jz e)
      rw [hu] at this
      cases this
    rw [hu] at dn up
    have e : lo + 1 = 2 * j := by
      simp at dn up
      omega
    rw [e, if_pos (by omega), el]
  | false =>
    have nh : j ≠ h := fun e => by
      have := ok.o (jd e)
      rw [hu] at this
      cases this
    rw [hu] at dn up
    have e : lo = 2 * j := by
      simp at dn up
      omega
    rw [e, if_neg (by omega), el]
end Z

namespace Z
open L2 PySem PySem.Spec PyProof.Rows
open Evl (Ex ex_l ex_t ex_rd fresh_back)
/-! ### sizes of cells and positions -/
theorem gcd_divW {n d x : Int} (hd : 0 < d) (hs : Bn 9000 d) : CDivW x (Int.gcd n d) := divX 9000 (gcd_pos hd) (hs.le (Int.le_of_lt (gcd_pos hd)) (gcd_le hd)) (Nat.le_refl _)
theorem max0 (e : Int) : (if (0 : Int) > e then 0 else e).toNat = e.toNat := by
  split <;> omega
theorem max0n (e : Int) : (if (0 : Int) > 0 - e then 0 else 0 - e).toNat = (-e).toNat := by
  split <;> omega
theorem max0nn (e : Int) : 0 ≤ (if (0 : Int) > e then 0 else e) := by
  split <;> omega
theorem max0le {e b : Int} (h : e ≤ b) (hb : 0 ≤ b) : (if (0 : Int) > e then 0 else e) ≤ b := by
  split <;> omega
theorem max0w {e w : Int} (hw : 0 ≤ w) : ((if (0 : Int) > e then 0 else e) + w).toNat = (-(0 - e)).toNat + w.toNat := by
  split <;> omega
theorem max0e {e : Int} : (if (0 : Int) > e then 0 else e).toNat = (-(0 - e)).toNat := by
  split <;> omega
theorem scI_div {n d f : Int} {b : Nat} (hd : 0 < d) (bd : Bn b d) (h : (b : Int) + -f ≤ 8998) (hb : b ≤ 8998) : CDivW (scI n d f).1 (scI n d f).2 :=
  divX 9000 (Int.mul_pos hd (pow2_pos _)) ((shlB bd).mono (by omega)) (Nat.le_refl _)
theorem cell_e {n d w : Int} (hn : 0 < n) (bn : Bn 4000 n) (hd : 0 < d) (bd : Bn 4000 d) (h1 : 1 ≤ w) (h2 : w ≤ 100) : -4100 ≤ (cellI n d w).2 ∧ (cellI n d w).2 ≤ 4000 := by
  obtain ⟨_, _, _, c1, c2⟩ := cellI_spec hn hd h1
  have e1 := bl_le bn
  have e2 := bl_le bd
  have e3 := bl_nn n
  have e4 := bl_nn d
  obtain ⟨p, ep, _⟩ := bl_pos hn
  obtain ⟨q, eq, _⟩ := bl_pos hd
  omega
theorem cell_kB {n d w : Int} (hn : 0 < n) (hd : 0 < d) (h1 : 1 ≤ w) (h2 : w ≤ 100) : 0 < (cellI n d w).1 ∧ Bn 101 (cellI n d w).1 := by
  obtain ⟨_, c1, c2, _⟩ := cellI_spec hn hd h1
  have := pow2_pos (w - 1).toNat
  exact ⟨by omega, (Bn.pow2 (n := w.toNat) (m := 101) (by omega)).le (by omega) (Int.le_of_lt c2)⟩
theorem pos_rest {n d w : Int} (hn : 0 < n) (hd : 0 < d) (h1 : 1 ≤ w) : (scI n d (0 - (cellI n d w).2)).1 - (cellI n d w).1 * (scI n d (0 - (cellI n d w).2)).2 = (scI n d (0 - (cellI n d w).2)).1 % (scI n d (0 - (cellI n d w).2)).2 := by
  obtain ⟨c, _⟩ := cellI_spec hn hd h1
  generalize ha : (scI n d (0 - (cellI n d w).2)).1 = a at c ⊢
  generalize hb : (scI n d (0 - (cellI n d w).2)).2 = b at c ⊢
  rw [c, Int.emod_def, Int.mul_comm]
theorem cell_eB {n d w : Int} {a : Nat} (hn : 0 < n) (bn : Bn a n) (hd : 0 < d) (bd : Bn a d) (h1 : 1 ≤ w) (h2 : w ≤ 100) : -(a : Int) - 100 ≤ (cellI n d w).2 ∧ (cellI n d w).2 ≤ a := by
  obtain ⟨_, _, _, c1, c2⟩ := cellI_spec hn hd h1
  have e1 := bl_le bn
  have e2 := bl_le bd
  have e3 := bl_nn n
  have e4 := bl_nn d
  obtain ⟨p, ep, _⟩ := bl_pos hn
  obtain ⟨q, eq, _⟩ := bl_pos hd
  omega
theorem pos_one {n d w : Int} (hn : 0 < n) (hd : 0 < d) (h1 : 1 ≤ w) : (posI n d w).1 = 0 ↔ posI n d w = (0, 1) := by
  refine ⟨fun h => ?_, fun h => by rw [h]⟩
  obtain ⟨a0, b0⟩ := scI_pos (f := 0 - (cellI n d w).2) hn hd
  refine Prod.ext h ?_
  unfold posI at h ⊢
  generalize (scI n d (0 - (cellI n d w).2)).1 - (cellI n d w).1 * (scI n d (0 - (cellI n d w).2)).2 = x at h ⊢
  generalize (scI n d (0 - (cellI n d w).2)).2 = y at b0 h ⊢
  have g0 := gcd_pos (a := x) b0
  have d1 : (Int.gcd x y : Int) ∣ x := Int.gcd_dvd_left x y
  have hx : x = 0 := by
    have := Int.ediv_mul_cancel d1
    have h' : x / Int.gcd x y = 0 := h
    rw [h'] at this
    omega
  subst hx
  show y / ((Int.gcd 0 y : Nat) : Int) = 1
  rw [Int.gcd_zero_left]
  have : ((y.natAbs : Nat) : Int) = y := by omega
  rw [this]
  exact Int.ediv_self (by omega)
theorem low_le {n d : Int} (hn : 0 ≤ n) (hd : 0 < d) : 0 ≤ (low n d).1 ∧ (low n d).1 ≤ n := ⟨Int.ediv_nonneg hn (Int.le_of_lt (gcd_pos hd)), Int.ediv_le_self _ hn⟩
theorem pos_B {n d w : Int} (hn : 0 < n) (bn : Bn 4000 n) (hd : 0 < d) (bd : Bn 4000 d) (h1 : 1 ≤ w) (h2 : w ≤ 100) : 0 ≤ (posI n d w).1 ∧ Bn 9000 (posI n d w).1 := by
  obtain ⟨c1, c2⟩ := cell_e hn bn hd bd h1 h2
  obtain ⟨a0, b0⟩ := scI_pos (f := 0 - (cellI n d w).2) hn hd
  have bb : Bn 9000 (scI n d (0 - (cellI n d w).2)).2 := (shlB bd).mono (by omega)
  unfold posI
  rw [pos_rest hn hd h1]
  have r0 := Int.emod_nonneg (scI n d (0 - (cellI n d w).2)).1 (show (scI n d (0 - (cellI n d w).2)).2 ≠ 0 by omega)
  obtain ⟨l1, l2⟩ := low_le r0 b0
  exact ⟨l1, (Bn.modR bb b0).le l1 l2⟩
theorem pow_B {k e : Int} {a : Nat} (hk : 0 < k) (bk : Bn 102 k) (h1 : -(a : Int) - 100 ≤ e) (h2 : e ≤ a) : 0 < (powI k e).1 ∧ 0 < (powI k e).2 ∧ Int.gcd (powI k e).1 (powI k e).2 = 1 ∧ Bn (a + 300) (powI k e).1 ∧ Bn (a + 300) (powI k e).2 := by
  obtain ⟨p, q⟩ := scI_pos (f := e) hk (show (0 : Int) < 1 by decide)
  obtain ⟨h3, h4, h5, h6, h7⟩ := low_pos p q
  have b1 : Bn (a + 300) (scI k 1 e).1 := (shlB bk).mono (by omega)
  have b2 : Bn (a + 300) (scI k 1 e).2 := (shlB (Bn.small (m := 64) (i := 1) (by decide) (by decide) (by decide))).mono (by omega)
  exact ⟨h3, h4, h5, b1.le (Int.le_of_lt h3) h6, b2.le (Int.le_of_lt h4) h7⟩
theorem ends_B {n d w : Int} {a : Nat} (hn : 0 < n) (bn : Bn a n) (hd : 0 < d) (bd : Bn a d) (hg : Int.gcd n d = 1) (h1 : 1 ≤ w) (h2 : w ≤ 100) :
    (0 < (endsI n d w).1.1 ∧ 0 < (endsI n d w).1.2 ∧ Int.gcd (endsI n d w).1.1 (endsI n d w).1.2 = 1 ∧ Bn (a + 300) (endsI n d w).1.1 ∧ Bn (a + 300) (endsI n d w).1.2) ∧
    (0 < (endsI n d w).2.1 ∧ 0 < (endsI n d w).2.2 ∧ Int.gcd (endsI n d w).2.1 (endsI n d w).2.2 = 1 ∧ Bn (a + 300) (endsI n d w).2.1 ∧ Bn (a + 300) (endsI n d w).2.2) := by
  obtain ⟨c1, c2⟩ := cell_eB hn bn hd bd h1 h2
  obtain ⟨k1, k2⟩ := cell_kB hn hd h1 h2
  unfold endsI
  split
  · exact ⟨⟨hn, hd, hg, bn.mono (by omega), bd.mono (by omega)⟩, ⟨hn, hd, hg, bn.mono (by omega), bd.mono (by omega)⟩⟩
  · exact ⟨pow_B k1 (k2.mono (by decide)) c1 c2, pow_B (by omega) (k2.add (Bn.small (by decide) (by decide) (by decide))) c1 c2⟩
theorem round_B {n d w : Int} {a : Nat} (r : Ru) (hn : 0 < n) (bn : Bn a n) (hd : 0 < d) (bd : Bn a d) (hg : Int.gcd n d = 1) (h1 : 1 ≤ w) (h2 : w ≤ 100) :
    0 < (roundI n d w r).1 ∧ 0 < (roundI n d w r).2 ∧ Int.gcd (roundI n d w r).1 (roundI n d w r).2 = 1 ∧ Bn (a + 300) (roundI n d w r).1 ∧ Bn (a + 300) (roundI n d w r).2 := by
  obtain ⟨x, y⟩ := ends_B hn bn hd bd hg h1 h2
  unfold roundI
  split
  · exact y
  · exact x
end Z

namespace Z
open L2 PySem PySem.Spec PyProof.Rows
open Evl (Ex ex_l ex_t ex_rd fresh_back)
/-! ### dicts of texts: display, in, [..] -/
def keyIsS (x : Str) : Da → Bool
  | .str y => decide (y = x)
  | _ => false
def getS (es : List (Da × Da)) (x : Str) : Option Da := (es.find? fun p => keyIsS x p.1).map (·.2)
def dDS (kvs : List (Str × Str)) : DE := fun g Q => Q (.val (.dict (kvs.map fun p => (.str p.1, .str p.2)))) g
def fInDict : BinF := fun d e post => match d, e with
  | .str x, .dict es => post (.bool (getS es x).isSome)
  | _, _ => False
def dDGet (ta tb : DE) : DE := fun g Q => ta g fun x g1 => tb g1 fun y g2 => match x, y with
  | .val (.dict es), .val (.str z) => (match getS es z with | some d => Q (.val d) g2 | none => False)
  | _, _ => False
theorem rpk_get {K : Fg} {F : Hp} {x : Str} : ∀ {kvs : List (Key × V)} {es : List (Da × Da)}, RpK K F kvs es → (valV kvs (.inr x) = none ∧ getS es x = none) ∨ ∃ v d, valV kvs (.inr x) = some v ∧ getS es x = some d ∧ Rp K F v d
  | _, _, .nil => .inl ⟨rfl, rfl⟩
  | _, _, @RpK.cons _ _ k v vs d ds h t => by
    have e1 : decide (k = (Sum.inr x : Key)) = keyIsS x (keyD k) := by
      cases k with
      | inl i => simp [keyD, keyIsS]
      | inr y => simp [keyD, keyIsS]
    unfold valV getS
    cases q : keyIsS x (keyD k) with
    | true =>
      refine .inr ⟨v, d, ?_, ?_, h⟩
      · rw [List.find?_cons_of_pos (by rw [e1]; exact q)]
        rfl
      · rw [List.find?_cons_of_pos (p := fun p => keyIsS x p.1) (a := (keyD k, d)) q]
        rfl
    | false =>
      rw [List.find?_cons_of_neg (by rw [e1, q]; decide), List.find?_cons_of_neg (p := fun p => keyIsS x p.1) (a := (keyD k, d)) (by show ¬keyIsS x (keyD k) = true; rw [q]; decide)]
      exact rpk_get t
section
variable {X : Cx} {a b : Expr} {ta tb : DE} {pos : Pos}
theorem pairs_const {σ : L2.St} : ∀ {kvs : List (Str × Str)} {H : Hp} {Q : List (V × V) → Hp → Prop}, Q (kvs.map fun p => (V.str p.1, V.str p.2)) H → tPairs (kvs.map fun p => (tC (.str p.1), tC (.str p.2))) σ H Q
  | [], _, _, h => h
  | p :: kvs, H, Q, h => by
    show tPairs (kvs.map fun p => (tC (.str p.1), tC (.str p.2))) σ H fun ps H3 => Q ((V.str p.1, V.str p.2) :: ps) H3
    exact pairs_const h
theorem rpk_str {K : Fg} {F : Hp} : ∀ kvs : List (Str × Str), RpK K F (kvs.map fun p => ((Sum.inr p.1 : Key), V.str p.2)) (kvs.map fun p => (.str p.1, .str p.2))
  | [] => .nil
  | p :: kvs => .cons (.str _) (rpk_str kvs)
theorem e_dS {kvs : List (Str × Str)} {keys : List (Option Expr)} {values : List Expr} (h : PPs X pos keys values (kvs.map fun p => (tC (.str p.1), tC (.str p.2)))) (hm : mergeK [] (kvs.map fun p => ((Sum.inr p.1 : Key), V.str p.2)) = kvs.map fun p => ((Sum.inr p.1 : Key), V.str p.2)) (hl : kvs.length ≤ 15)
    (h1 : keys.all (·.isSome) = true) (h2 : keys.length = values.length) (h3 : keys ≠ []) (h4 : keys.length ≤ 15) : PE X (.Dict keys values pos) (up X.K (dDS kvs)) := pe_to (pe_disp h h1 h2 h3 h4) fun σ H Q q => by
  obtain ⟨c, g, tv, tr, F, a, post, s, t, k⟩ := q
  intro p hp
  refine pairs_const ⟨upd_same, kvs.map (fun p => ((Sum.inr p.1 : Key), V.str p.2)), ?_, by rw [List.length_map]; exact hl, ?_⟩
  · rw [List.map_map]
    rfl
  · rw [upd_twice, hm]
    have gr := Gr.new (o := .dK (kvs.map fun p => ((Sum.inr p.1 : Key), V.str p.2))) s.eh hp
    exact k _ g _ _ _ a t ((s.grow gr).push (r := .val (.dict (kvs.map fun p => (.str p.1, .str p.2)))) (.dct (.inl upd_same) (rpk_str kvs)))
theorem op_inDict (hu : X.A.units + 1 < cLine) : OpR X (compareOp .In) (fun x y H Q => ∃ a o, y = .ref a ∧ DGet H a x o ∧ Q (.bl o.isSome) H) := by
  intro pins s σ H x y v u Q I rx ry h
  obtain ⟨a, o, rfl, g, q⟩ := h
  obtain rfl : u = Value.ref a := ry
  exact d_in hu I g rx fun s' I' => ⟨.bl _, H, I', rfl, q⟩
theorem ok_inDict {K : Fg} : BinOk K (fun x y H Q => ∃ a o, y = .ref a ∧ DGet H a x o ∧ Q (.bl o.isSome) H) fInDict := fun F H x y d e post Q hx r1 r2 hf k => by
  cases d with
  | str z =>
    cases e with
    | dict es =>
      cases r1
      cases r2 with
      | dct rd m =>
        rename_i aa kvs
        have rd' : Rd H aa (.dK kvs) := ex_rd hx rd
        rcases rpk_get (x := z) m with ⟨e1, e2⟩ | ⟨v, dd, e1, e2, _⟩
        · refine ⟨aa, none, rfl, .inl ⟨kvs, .inr z, rd', rfl, e1.symm⟩, k _ _ H F hf (Gr.refl hx) ?_⟩
          rw [e2]
          exact .bl _
        · refine ⟨aa, some v, rfl, .inl ⟨kvs, .inr z, rd', rfl, e1.symm⟩, k _ _ H F hf (Gr.refl hx) ?_⟩
          rw [e2]
          exact .bl _
    | _ => exact hf.elim
  | _ => exact hf.elim
theorem Room.un1 {k : Nat} {A : Around} (r : Room k A) : A.units + 1 < cLine := by have := r.un; omega
theorem e_inDict {k : Nat} (hr : Room k X.A) (ha : PE X a (up X.K ta)) (hb : PE X b (up X.K tb)) (hm : behindInMarks .In b = false := by rfl) : PE X (.Compare a [.In] [b] pos) (up X.K (dBin fInDict ta tb)) := e_cmp (op_inDict (Room.un1 hr)) ok_inDict ha hb hm
theorem t_inDict {k : Nat} (hr : Room k X.A) (ha : PE X a (up X.K ta)) (hb : PE X b (up X.K tb)) (hm : behindInMarks .In b = false := by rfl) : PT X (.Compare a [.In] [b] pos) (upT X.K (dTest (dBin fInDict ta tb))) := t_cmp (op_inDict (Room.un1 hr)) ok_inDict ha hb hm
theorem e_dget {k : Nat} (hr : Room k X.A) (ha : PE X a (up X.K ta)) (hb : PE X b (up X.K tb)) (hs : NoSl b := by exact fun _ _ => rfl) : PE X (.Subscript a b pos) (up X.K (dDGet ta tb)) := pe_to (pe_dget (Room.un1 hr) ha hb hs) fun σ H Q q => by
  obtain ⟨c, g, tv, tr, F, ad, post, s, t, k⟩ := q
  refine ⟨c, g, tv, tr, F, ad, _, s, t, fun x g1 v1 H1 F1 a1 t1 s1 => ?_⟩
  refine ⟨c, g1, _, _, F1, a1, _, s1, t1, fun y g2 v2 H2 F2 a2 t2 s2 => ?_⟩
  cases x with
  | val d =>
    cases d with
    | dict es =>
      cases y with
      | val e =>
        cases e with
        | str z =>
          have r2 : Rp X.K F2 v2 (.str z) := s2.top
          have r1 : Rp X.K F2 v1 (.dict es) := s2.pop1.top
          cases r2
          cases r1 with
          | dct rd m =>
            rename_i aa kvs
            replace t2 : (match getS es z with | some d => post (.val d) g2 | none => False) := t2
            rcases rpk_get (x := z) m with ⟨e1, e2⟩ | ⟨v, dd, e1, e2, rv⟩
            · rw [e2] at t2
              exact t2.elim
            · rw [e2] at t2
              exact ⟨aa, v, rfl, .inl ⟨kvs, .inr z, ex_rd s2.eh rd, rfl, e1.symm⟩, k _ g2 v H2 F2 a2 t2 (s2.pop1.pop1.push (r := .val dd) rv)⟩
        | _ => exact t2.elim
      | _ => exact t2.elim
    | _ => exact t2.elim
  | _ => exact t2.elim
end
end Z

/-! ### list(zip(t, u)), t and u pairs -/
namespace LZ
open PySem
open PySem.Sem (wp)
section
variable {prog : Program} {w : World} {A : Around} {E : Value → Shared → Prop} {s : Shared} {q TI TO T u1 u2 t1 t2 : Addr} {f : Bool} {oT : Obj} {k : Nat} {xs ys : Array Value}
theorem held_item {x y : Value} {Q : Value → Shared → Prop} (D : ZipApart q TI TO u1 u2 t1 t2) (hq : IsZipHeld s.heap q TI TO T f) (hT : s.heap.get? T = some oT) (hI : IsPair s.heap TI (.ref u1) (.ref u2))
    (g1 : s.heap.IsTupleIter u1 t1 k) (g2 : s.heap.IsTupleIter u2 t2 k) (m1 : s.heap.IsTuple t1 xs) (m2 : s.heap.IsTuple t2 ys) (ex : xs[k]? = some x) (ey : ys[k]? = some y)
    (hQ : ∀ h', IsZipHeld h' q TI TO T true → h'.IsTupleIter u1 t1 (k + 1) → h'.IsTupleIter u2 t2 (k + 1) → IsPair h' s.heap.objs.size x y → h'.objs.size = s.heap.objs.size + 1 →
      (∀ c o, c ≠ q → c ≠ u1 → c ≠ u2 → s.heap.get? c = some o → h'.get? c = some o) → Q (.ref s.heap.objs.size) { s with heap := h' }) :
    wpAny (model prog w) A (Builtin.«zip.__next__» ⟨[.ref q], []⟩) (fun fin s' => ∃ v, fin = .done (.ret v) ∧ Q v s') E s := by
  show wpAny _ _ (field (.ref q) 2 >>= _) _ _ _; refine wpAny_bind (wpAny_field hq rfl (x := .bool false) rfl ?_)
  show wpAny _ _ (field (.ref q) 3 >>= _) _ _ _; refine wpAny_bind (wpAny_field hq rfl (x := .ref TI) rfl (wpAny_bind (wpAny_seqItems hI rfl ?_)))
  show wpAny _ _ (Builtin.SmallTypes.ownedTupleIsFree (.ref q) >>= _) _ _ _; refine wpAny_bind (wpAny_tupleHeld_zip hq hT fun a1 b1 c1 => ?_)
  simp only [Bool.false_eq_true, if_false]; refine wpAny_bind ?_; rw [← Array.forIn_toList]; simp only [List.forIn_cons, List.forIn_nil]
  refine wpAny_bind (wpAny_bind (wpAny_holding ?_)); show wpAny _ _ (Builtin.SmallTypes.nextOf (.ref u1) >>= _) _ _ _
  refine wpAny_bind (RZ.nextOf_tuple_item (s := { s with heap := a1 }) (g1.extBut c1.extBut D.i1z) (m1.extBut c1.extBut D.l1z) ex fun a2 b2 c2 => wpAny_pure (wpAny_pure ?_))
  refine wpAny_bind (wpAny_bind (wpAny_holding ?_)); show wpAny _ _ (Builtin.SmallTypes.nextOf (.ref u2) >>= _) _ _ _
  refine wpAny_bind (RZ.nextOf_tuple_item (s := { s with heap := a2 }) ((g2.extBut c1.extBut D.i2z).extBut c2.extBut D.i12.symm) ((m2.extBut c1.extBut D.l2z).extBut c2.extBut D.l2i1) ey fun a3 b3 c3 => wpAny_pure (wpAny_pure (wpAny_pure ?_)))
  show wpAny _ _ (newTuple [x, y] >>= _) _ _ _; refine wpAny_bind (wpAny_newTuple ?_)
  have n3 : a3.objs.size = s.heap.objs.size := by rw [c3.1, c2.1, c1.1]
  have r3 : IsZipHeld a3 q TI TO T true := c3.extBut _ _ D.i2z.symm (c2.extBut _ _ D.i1z.symm b1)
  have kp : ∀ c o, c ≠ q → c ≠ u1 → c ≠ u2 → s.heap.get? c = some o → a3.get? c = some o := fun c o e1 e2 e3 e => c3.extBut _ _ e3 (c2.extBut _ _ e2 (c1.extBut _ _ e1 e))
  refine wpAny_pure ⟨_, rfl, ?_⟩; show Q (.ref a3.objs.size) _
  have np : IsPair (a3.push { cls := .type "tuple", data := .seq #[x, y] }) a3.objs.size x y := Heap.get?_push_size _ rfl
  have nz : (a3.push { cls := .type "tuple", data := .seq #[x, y] }).objs.size = a3.objs.size + 1 := Heap.size_push ..
  rw [n3] at np nz ⊢
  exact hQ _ (Heap.get?_push_of_some _ r3) ((b2.extBut c3.extBut D.i12).at fun o e => Heap.get?_push_of_some _ e) (b3.at fun o e => Heap.get?_push_of_some _ e) np nz fun c o e1 e2 e3 e => Heap.get?_push_of_some _ (kp c o e1 e2 e3 e)
theorem held_end {Q : Fin → Shared → Prop} (hh : A.handled = none) (D : ZipApart q TI TO u1 u2 t1 t2) (hq : IsZipHeld s.heap q TI TO T f) (hT : s.heap.get? T = some oT) (hI : IsPair s.heap TI (.ref u1) (.ref u2))
    (g1 : s.heap.IsTupleIter u1 t1 k) (m1 : s.heap.IsTuple t1 xs) (ex : xs[k]? = none)
    (hE : ∀ h' e, (∀ c o, c ≠ q → c ≠ u1 → c ≠ u2 → s.heap.get? c = some o → h'.get? c = some o) → (∃ o, h'.get? e = some o ∧ o.cls = .type "StopIteration") → E (.ref e) { s with heap := h' }) :
    wpAny (model prog w) A (Builtin.«zip.__next__» ⟨[.ref q], []⟩) Q E s := by
  show wpAny _ _ (field (.ref q) 2 >>= _) _ _ _; refine wpAny_bind (wpAny_field hq rfl (x := .bool false) rfl ?_)
  show wpAny _ _ (field (.ref q) 3 >>= _) _ _ _; refine wpAny_bind (wpAny_field hq rfl (x := .ref TI) rfl (wpAny_bind (wpAny_seqItems hI rfl ?_)))
  show wpAny _ _ (Builtin.SmallTypes.ownedTupleIsFree (.ref q) >>= _) _ _ _; refine wpAny_bind (wpAny_tupleHeld_zip hq hT fun a1 b1 c1 => ?_)
  simp only [Bool.false_eq_true, if_false]; refine wpAny_bind ?_; rw [← Array.forIn_toList]; simp only [List.forIn_cons, List.forIn_nil]
  refine wpAny_bind (wpAny_bind (wpAny_holding ?_)); show wpAny _ _ (Builtin.SmallTypes.nextOf (.ref u1) >>= _) _ _ _
  refine wpAny_bind (RZ.nextOf_tuple_end (s := { s with heap := a1 }) hh (g1.extBut c1.extBut D.i1z) (m1.extBut c1.extBut D.l1z) ex fun a2 e c2 he => ?_)
  exact hE a2 e (fun c o e1 e2 _ z => c2 _ _ e2 (c1.extBut _ _ e1 z)) he
theorem next_held {x y : Value} {Q : Option Value → Shared → Prop} (D : ZipApart q TI TO u1 u2 t1 t2) (hq : IsZipHeld s.heap q TI TO T f) (hT : s.heap.get? T = some oT) (hI : IsPair s.heap TI (.ref u1) (.ref u2))
    (g1 : s.heap.IsTupleIter u1 t1 k) (g2 : s.heap.IsTupleIter u2 t2 k) (m1 : s.heap.IsTuple t1 xs) (m2 : s.heap.IsTuple t2 ys) (ex : xs[k]? = some x) (ey : ys[k]? = some y)
    (hQ : ∀ h', IsZipHeld h' q TI TO T true → h'.IsTupleIter u1 t1 (k + 1) → h'.IsTupleIter u2 t2 (k + 1) → IsPair h' s.heap.objs.size x y → h'.objs.size = s.heap.objs.size + 1 →
      (∀ c o, c ≠ q → c ≠ u1 → c ≠ u2 → s.heap.get? c = some o → h'.get? c = some o) → Q (some (.ref s.heap.objs.size)) { s with heap := h' }) :
    wpAny (model prog w) A (pyNext (.ref q)) Q E s := by
  have ty : s.TypeIs (.ref q) "zip" := ⟨_, hq, rfl⟩
  unfold pyNext
  exact wpAny_bind (wpAny_attempt (wpAny_callSpecial?_slot (name := Str.ofString "__next__") ty F.slot_zip_next (wpAny_call_entry F.slot_zip_next ty F.entry_zip_next (held_item D hq hT hI g1 g2 m1 m2 ex ey fun h' a1 a3 a4 a5 a6 a7 => wpAny_pure (hQ h' a1 a3 a4 a5 a6 a7)) (F.args_zip_next_1 _))))
theorem next_held_end {Q : Option Value → Shared → Prop} (hh : A.handled = none) (D : ZipApart q TI TO u1 u2 t1 t2) (hq : IsZipHeld s.heap q TI TO T f) (hT : s.heap.get? T = some oT) (hI : IsPair s.heap TI (.ref u1) (.ref u2))
    (g1 : s.heap.IsTupleIter u1 t1 k) (m1 : s.heap.IsTuple t1 xs) (ex : xs[k]? = none)
    (hQ : ∀ h', (∀ c o, c ≠ q → c ≠ u1 → c ≠ u2 → s.heap.get? c = some o → h'.get? c = some o) → Q none { s with heap := h' }) : wpAny (model prog w) A (pyNext (.ref q)) Q E s := by
  have ty : s.TypeIs (.ref q) "zip" := ⟨_, hq, rfl⟩
  unfold pyNext
  refine wpAny_bind (wpAny_attempt (wpAny_callSpecial?_slot (name := Str.ofString "__next__") ty F.slot_zip_next (wpAny_call_entry F.slot_zip_next ty F.entry_zip_next (held_end hh D hq hT hI g1 m1 ex fun h' e hk he => ?_) (F.args_zip_next_1 _))))
  obtain ⟨o, ho, hc⟩ := he
  refine wpAny_bind (wpAny_isInstance (T := "StopIteration") (b := true) ⟨o, ho, hc⟩ isSubtype_stop (wpAny_pure (hQ _ hk)))
end
theorem no_len : typeLookup (.type "zip") "__len__" = pure none := by (rw [typeLookup_type, builtinLookup_eq_fast]; kernel_rfl)
theorem no_hint : typeLookup (.type "zip") "__length_hint__" = pure none := by (rw [typeLookup_type, builtinLookup_eq_fast]; kernel_rfl)
section
variable {prog : Program} {w : World} {A : Around} {s : Shared} {R : Result → Shared → Prop} {q TI TO u1 u2 t1 t2 S : Addr} {x0 x1 y0 y1 a b : Value}
/-- what the zip stands for, ahead of the first pair -/
structure Fresh (h : Heap) (q TI TO u1 u2 t1 t2 : Addr) (x0 x1 y0 y1 a b : Value) : Prop where
  D : ZipApart q TI TO u1 u2 t1 t2
  z : IsZip h q TI TO .none
  i : IsPair h TI (.ref u1) (.ref u2)
  o : IsPair h TO a b
  g1 : h.IsTupleIter u1 t1 0
  g2 : h.IsTupleIter u2 t2 0
  m1 : h.IsTuple t1 #[x0, x1]
  m2 : h.IsTuple t2 #[y0, y1]
theorem Fresh.keep {h h' : Heap} (F : Fresh h q TI TO u1 u2 t1 t2 x0 x1 y0 y1 a b) (hS : S ≠ q ∧ S ≠ TI ∧ S ≠ TO ∧ S ≠ u1 ∧ S ≠ u2 ∧ S ≠ t1 ∧ S ≠ t2) (hk : ∀ c o, c ≠ S → h.get? c = some o → h'.get? c = some o) : Fresh h' q TI TO u1 u2 t1 t2 x0 x1 y0 y1 a b := by
  obtain ⟨s1, s2, s3, s4, s5, s6, s7⟩ := hS
  exact ⟨F.D, hk _ _ s1.symm F.z, hk _ _ s2.symm F.i, hk _ _ s3.symm F.o, F.g1.at fun o e => hk _ o s4.symm e, F.g2.at fun o e => hk _ o s5.symm e, F.m1.at fun o e => hk _ o s6.symm e, F.m2.at fun o e => hk _ o s7.symm e⟩
theorem loop2 {h : Heap} {c0 tk : Nat} {res : Value} (hh : A.handled = none) (F : Fresh h q TI TO u1 u2 t1 t2 x0 x1 y0 y1 a b) (hS : S ≠ q ∧ S ≠ TI ∧ S ≠ TO ∧ S ≠ u1 ∧ S ≠ u2 ∧ S ≠ t1 ∧ S ≠ t2) (hl : h.get? S = some { cls := .type "list", data := .seq #[] c0 })
    (hR : ∀ h' c T0 T1, (∀ d o, d ≠ S → d ≠ q → d ≠ TO → d ≠ u1 → d ≠ u2 → h.get? d = some o → h'.get? d = some o) → h.objs.size ≤ T0 → h.objs.size ≤ T1 → T0 ≠ T1 → T0 ≠ S → T1 ≠ S → IsPair h' T0 x0 y0 → IsPair h' T1 x1 y1 →
      h'.get? S = some { cls := .type "list", dict := none, data := .seq #[.ref T0, .ref T1] c, slots := #[] } → R (.ok (.ret res)) { s with heap := h', toks := tk }) :
    codeAny (model prog w) A (.builtin "list.extend.loop" ⟨[.ref S, .ref q, res], []⟩) R { s with heap := h, toks := tk } := by
  obtain ⟨s1, s2, s3, s4, s5, s6, s7⟩ := hS
  have D := F.D
  have Sl : S < h.objs.size := Heap.lt_size hl
  refine codeAny_builtin PySem.F.entry_extend_loop ?_; rw [Around.under_plainId PySem.F.plain_extend_loop _]
  show wpAny _ A.in1 (pyNext (.ref q) >>= _) _ _ _
  refine wpAny_bind (RZ.pyNext_zipT_item (s := { s with heap := h, toks := tk }) D F.z F.i F.o F.g1 F.g2 F.m1 F.m2 (k1 := 0) (k2 := 0) (x := x0) (y := y0) rfl rfl fun p e1 e2 e3 e4 e5 e6 e7 => ?_)
  dsimp only at e5 e6 e7
  have l1 : p.get? S = some { cls := .type "list", data := .seq #[] c0 } := e7 S _ s1 s3 s4 s5 hl
  show wpAny _ A.in1 (updateSeq S (·.push (Value.ref h.objs.size)) >>= _) _ _ _; refine wpAny_bind ?_
  refine wpAny_updateSeq l1 rfl (wpAny_pure ⟨plainId_quiet PySem.F.plain_extend_loop _, ?_⟩)
  have l2 := Heap.get?_update_self (Obj.mapSeq (·.push (Value.ref h.objs.size))) l1 rfl
  have v1 : ∀ d o, d ≠ S → p.get? d = some o → (p.update S (Obj.mapSeq (·.push (Value.ref h.objs.size)))).get? d = some o := fun d o hd e => (Heap.get?_update_other _ _ (Ne.symm hd)).trans e
  generalize p.update S (Obj.mapSeq (·.push (Value.ref h.objs.size))) = p1 at l2 v1 ⊢
  have n0 : h.objs.size ≠ S := Nat.ne_of_gt Sl
  have t0 := v1 _ _ n0 e5
  have z0 : h.objs.size < p1.objs.size := Heap.lt_size t0
  have w1 : ∀ d o, d ≠ S → d ≠ q → d ≠ TO → d ≠ u1 → d ≠ u2 → h.get? d = some o → p1.get? d = some o := fun d o d1 d2 d3 d4 d5 e => v1 d o d1 (e7 d o d2 d3 d4 d5 e)
  have M1 : p1.IsTuple t1 #[x0, x1] := F.m1.at fun o e => w1 t1 o s6.symm D.l1z D.l1TO D.l1i1 D.l1i2 e
  have M2 : p1.IsTuple t2 #[y0, y1] := F.m2.at fun o e => w1 t2 o s7.symm D.l2z D.l2TO D.l2i1 D.l2i2 e
  have I1 : IsPair p1 TI (.ref u1) (.ref u2) := w1 TI _ s2.symm D.TIz D.TITO D.TIi1 D.TIi2 F.i
  refine codeAny_builtin PySem.F.entry_extend_loop ?_; rw [Around.under_plainId PySem.F.plain_extend_loop _]
  show wpAny _ A.in1 (pyNext (.ref q) >>= _) _ _ _
  refine wpAny_bind (next_held (s := { s with heap := p1, toks := tk }) D (T := h.objs.size) (f := false) (v1 _ _ s1.symm e1) t0 I1 (e3.at fun o e => v1 _ o s4.symm e) (e4.at fun o e => v1 _ o s5.symm e) M1 M2 (x := x1) (y := y1) rfl rfl fun p2 k1 k3 k4 k5 k6 k7 => ?_)
  dsimp only at k5 k6 k7
  have l3 := k7 S _ s1 s4 s5 l2
  show wpAny _ A.in1 (updateSeq S (·.push (Value.ref p1.objs.size)) >>= _) _ _ _; refine wpAny_bind ?_
  refine wpAny_updateSeq l3 rfl (wpAny_pure ⟨plainId_quiet PySem.F.plain_extend_loop _, ?_⟩)
  have l4 := Heap.get?_update_self (Obj.mapSeq (·.push (Value.ref p1.objs.size))) l3 rfl
  have v2 : ∀ d o, d ≠ S → p2.get? d = some o → (p2.update S (Obj.mapSeq (·.push (Value.ref p1.objs.size)))).get? d = some o := fun d o hd e => (Heap.get?_update_other _ _ (Ne.symm hd)).trans e
  generalize p2.update S (Obj.mapSeq (·.push (Value.ref p1.objs.size))) = p3 at l4 v2 ⊢
  have Sl1 : S < p1.objs.size := Heap.lt_size l2
  have n1 : p1.objs.size ≠ S := Nat.ne_of_gt Sl1
  have qn : h.objs.size ≠ q := Nat.ne_of_gt (Heap.lt_size F.z)
  have un1 : h.objs.size ≠ u1 := by obtain ⟨_, e, _⟩ := F.g1; exact Nat.ne_of_gt (Heap.lt_size e)
  have un2 : h.objs.size ≠ u2 := by obtain ⟨_, e, _⟩ := F.g2; exact Nat.ne_of_gt (Heap.lt_size e)
  have t3 := v2 _ _ n0 (k7 _ _ qn un1 un2 t0)
  have w3 : ∀ d o, d ≠ S → d ≠ q → d ≠ TO → d ≠ u1 → d ≠ u2 → h.get? d = some o → p3.get? d = some o := fun d o d1 d2 d3 d4 d5 e => v2 d o d1 (k7 d o d2 d4 d5 (w1 d o d1 d2 d3 d4 d5 e))
  have M3 : p3.IsTuple t1 #[x0, x1] := F.m1.at fun o e => w3 t1 o s6.symm D.l1z D.l1TO D.l1i1 D.l1i2 e
  have I3 : IsPair p3 TI (.ref u1) (.ref u2) := w3 TI _ s2.symm D.TIz D.TITO D.TIi1 D.TIi2 F.i
  refine codeAny_builtin PySem.F.entry_extend_loop ?_; rw [Around.under_plainId PySem.F.plain_extend_loop _]
  show wpAny _ A.in1 (pyNext (.ref q) >>= _) _ _ _
  refine wpAny_bind (next_held_end (A := A.in1) (s := { s with heap := p3, toks := tk }) hh D (T := h.objs.size) (f := true) (k := 2) (v2 _ _ s1.symm k1) t3 I3 (k3.at fun o e => v2 _ o s4.symm e) M3 rfl fun p4 j1 => ?_)
  dsimp only at j1
  have q3 : p1.objs.size ≠ q := Nat.ne_of_gt (Heap.lt_size (v1 _ _ s1.symm e1))
  have q4 : p1.objs.size ≠ u1 := by obtain ⟨_, e, _⟩ := e3; exact Nat.ne_of_gt (Heap.lt_size (v1 _ _ s4.symm e))
  have q5 : p1.objs.size ≠ u2 := by obtain ⟨_, e, _⟩ := e4; exact Nat.ne_of_gt (Heap.lt_size (v1 _ _ s5.symm e))
  refine wpAny_pure (hR p4 _ h.objs.size p1.objs.size (fun d o d1 d2 d3 d4 d5 e => j1 d o d2 d4 d5 (w3 d o d1 d2 d3 d4 d5 e)) (Nat.le_refl _) (Nat.le_of_lt z0) (Nat.ne_of_lt z0) n0 n1 (j1 _ _ qn un1 un2 t3) (j1 _ _ q3 q4 q5 (v2 _ _ n1 k5)) (j1 S _ s1 s4 s5 l4))
theorem extend2 {c0 : Nat} {res : Value} (hh : A.handled = none) (F : Fresh s.heap q TI TO u1 u2 t1 t2 x0 x1 y0 y1 a b) (hS : S ≠ q ∧ S ≠ TI ∧ S ≠ TO ∧ S ≠ u1 ∧ S ≠ u2 ∧ S ≠ t1 ∧ S ≠ t2) (hl : s.heap.get? S = some { cls := .type "list", data := .seq #[] c0 })
    (hR : ∀ h' c T0 T1, (∀ d o, d ≠ S → d ≠ q → d ≠ TO → d ≠ u1 → d ≠ u2 → s.heap.get? d = some o → h'.get? d = some o) → s.heap.objs.size ≤ T0 → s.heap.objs.size ≤ T1 → T0 ≠ T1 → T0 ≠ S → T1 ≠ S → IsPair h' T0 x0 y0 → IsPair h' T1 x1 y1 →
      h'.get? S = some { cls := .type "list", dict := none, data := .seq #[.ref T0, .ref T1] c, slots := #[] } → R (.ok (.ret res)) { s with heap := h' }) :
    wpAny (model prog w) A.in1 (Builtin.List.listExtendWith (.ref S) (.ref q) res)
      (fun fin s' => match fin with | .done f => R (.ok f) s' | .again c' => c'.quiet = true ∧ codeAny (model prog w) A c' R s') (fun e s' => R (.error e) s') s := by
  have ty : ∀ h : Heap, IsZip h q TI TO .none → ({ s with heap := h } : Shared).TypeIs (.ref q) "zip" := fun h e => ⟨_, e, rfl⟩
  unfold Builtin.List.listExtendWith
  refine wpAny_bind (wpAny_typeOf (T := "zip") (ty _ F.z) ?_)
  have h1 : Builtin.List.listSameRef (.ref S) (.ref q) = false := by simp [Builtin.List.listSameRef, hS.1]
  have h2 : (Value.type "zip" == Value.type "list") = false := by decide
  have h3 : (Value.type "zip" == Value.type "tuple") = false := by decide
  simp only [h1, h2, h3, Bool.or_false, Bool.false_eq_true, if_false]
  refine wpAny_bind (wpAny_pyIter_zip F.z (wpAny_bind (wpAny_holding ?_)))
  unfold Builtin.List.listLengthHint
  refine wpAny_bind (wpAny_specialOf (ty _ F.z) no_len ?_); show wpAny _ A.in1 (specialOf (Value.ref q) (Str.ofString "__length_hint__") >>= _) _ _ _
  refine wpAny_bind (wpAny_specialOf (ty _ F.z) no_hint (wpAny_pure ?_))
  show wpAny _ A.in1 (rule "list.extend.makes-room" >>= fun _ => Builtin.List.listTouch (.ref S) >>= fun _ => again (.builtin "list.extend.loop" ⟨[.ref S, .ref q, res], []⟩)) _ _ _
  refine wpAny_bind (wpAny_rule (wpAny_bind ?_)); show wpAny _ A.in1 (updateSeq S (·.push .none) >>= fun _ => updateSeq S (·.pop)) _ _ _
  refine wpAny_bind (wpAny_updateSeq hl rfl ?_); have r2 := Heap.get?_update_self (Obj.mapSeq (·.push Value.none)) hl rfl
  refine wpAny_updateSeq (hz := by seq_fits) r2 rfl ?_; have r3 := Heap.get?_update_self (Obj.mapSeq (·.pop)) r2 rfl
  have kp : ∀ d o, d ≠ S → s.heap.get? d = some o → ((s.heap.update S (Obj.mapSeq (·.push Value.none))).update S (Obj.mapSeq (·.pop))).get? d = some o := fun d o hd e => (Heap.get?_update_other _ _ (Ne.symm hd)).trans ((Heap.get?_update_other _ _ (Ne.symm hd)).trans e)
  have sz : ((s.heap.update S (Obj.mapSeq (·.push Value.none))).update S (Obj.mapSeq (·.pop))).objs.size = s.heap.objs.size := by rw [(Heap.SameBut.update ..).1, (Heap.SameBut.update ..).1]
  refine wpAny_pure ⟨plainId_quiet PySem.F.plain_extend_loop _, loop2 (s := s) (tk := s.toks) hh (F.keep hS kp) hS r3 fun h' c T0 T1 j1 j2 j3 j4 j5 j6 j7 j8 j9 => ?_⟩
  exact hR h' c T0 T1 (fun d o d1 d2 d3 d4 d5 e => j1 d o d1 d2 d3 d4 d5 (kp d o d1 e)) (by rw [← sz]; exact j2) (by rw [← sz]; exact j3) j4 j5 j6 j7 j8 j9
theorem init2 (hh : A.handled = none) (F : Fresh s.heap q TI TO u1 u2 t1 t2 x0 x1 y0 y1 a b) (hS : S ≠ q ∧ S ≠ TI ∧ S ≠ TO ∧ S ≠ u1 ∧ S ≠ u2 ∧ S ≠ t1 ∧ S ≠ t2) (hl : s.heap.get? S = some { cls := .type "list", data := .seq #[] })
    (hR : ∀ h' c T0 T1, (∀ d o, d ≠ S → d ≠ q → d ≠ TO → d ≠ u1 → d ≠ u2 → s.heap.get? d = some o → h'.get? d = some o) → s.heap.objs.size ≤ T0 → s.heap.objs.size ≤ T1 → T0 ≠ T1 → T0 ≠ S → T1 ≠ S → IsPair h' T0 x0 y0 → IsPair h' T1 x1 y1 →
      h'.get? S = some { cls := .type "list", dict := none, data := .seq #[.ref T0, .ref T1] c, slots := #[] } → R (.ok (.ret .none)) { s with heap := h' }) :
    wpAny (model prog w) A.in1 (Builtin.«list.__init__» ⟨[.ref S, .ref q], []⟩)
      (fun fin s' => match fin with | .done f => R (.ok f) s' | .again c' => c'.quiet = true ∧ codeAny (model prog w) A c' R s') (fun e s' => R (.error e) s') s := by
  show wpAny _ A.in1 (do let old ← Builtin.List.listItems (.ref S); Builtin.List.listUpdate (.ref S) (fun _ => #[]); letGo old.toList.reverse; Builtin.List.listExtendWith (.ref S) (.ref q) .none) _ _ s
  refine wpAny_bind ?_; unfold Builtin.List.listItems; refine wpAny_bind (wpAny_seqItems hl rfl (wpAny_pure ?_))
  show wpAny _ A.in1 (updateSeq S (fun _ => #[]) >>= fun _ => letGo (#[] : Array Value).toList.reverse >>= fun _ => Builtin.List.listExtendWith (.ref S) (.ref q) .none) _ _ s
  refine wpAny_bind (wpAny_updateSeq hl rfl ?_); have r2 := Heap.get?_update_self (Obj.mapSeq (fun _ => (#[] : Array Value))) hl rfl
  have kp : ∀ d o, d ≠ S → s.heap.get? d = some o → (s.heap.update S (Obj.mapSeq (fun _ => (#[] : Array Value)))).get? d = some o := fun d o hd e => (Heap.get?_update_other _ _ (Ne.symm hd)).trans e
  have sz : (s.heap.update S (Obj.mapSeq (fun _ => (#[] : Array Value)))).objs.size = s.heap.objs.size := (Heap.SameBut.update ..).1
  refine wpAny_bind (wpAny_letGo (extend2 (s := { s with heap := _ }) hh (F.keep hS kp) hS r2 fun h' c T0 T1 j1 j2 j3 j4 j5 j6 j7 j8 j9 => ?_))
  exact hR h' c T0 T1 (fun d o d1 d2 d3 d4 d5 e => j1 d o d1 d2 d3 d4 d5 (kp d o d1 e)) (by rw [← sz]; exact j2) (by rw [← sz]; exact j3) j4 j5 j6 j7 j8 j9
theorem call2 {E : Value → Shared → Prop} {Q : Value → Shared → Prop} (hh : A.handled = none) (F : Fresh s.heap q TI TO u1 u2 t1 t2 x0 x1 y0 y1 a b)
    (hQ : ∀ h' c T0 T1, (∀ d o, d ≠ q → d ≠ TO → d ≠ u1 → d ≠ u2 → s.heap.get? d = some o → h'.get? d = some o) → s.heap.objs.size < T0 → s.heap.objs.size < T1 → T0 ≠ T1 → IsPair h' T0 x0 y0 → IsPair h' T1 x1 y1 →
      h'.get? s.heap.objs.size = some { cls := .type "list", dict := none, data := .seq #[.ref T0, .ref T1] c, slots := #[] } → Q (.ref s.heap.objs.size) { s with heap := h' }) :
    wpAny (model prog w) A (call (.type "list") [.ref q]) Q E s := by
  refine callType_codes (Q₁ := fun obj s₁ => obj = .ref s.heap.objs.size ∧ s₁ = { s with heap := s.heap.push { cls := .type "list", data := .seq #[] } }) PySem.F.called_list (PySem.F.typeCall_list_1 _) PySem.F.entry_list_init (code_list_new _ ⟨rfl, rfl⟩) fun obj s₁ g => ?_
  obtain ⟨rfl, rfl⟩ := g
  have r0 : (s.heap.push { cls := .type "list", data := .seq #[] }).get? s.heap.objs.size = some { cls := .type "list", data := .seq #[] } := Heap.get?_push_size _ rfl
  have lt : ∀ {d o}, s.heap.get? d = some o → s.heap.objs.size ≠ d := fun e => Nat.ne_of_gt (Heap.lt_size e)
  have ne : s.heap.objs.size ≠ q ∧ s.heap.objs.size ≠ TI ∧ s.heap.objs.size ≠ TO ∧ s.heap.objs.size ≠ u1 ∧ s.heap.objs.size ≠ u2 ∧ s.heap.objs.size ≠ t1 ∧ s.heap.objs.size ≠ t2 := by
    obtain ⟨_, e1, _⟩ := F.g1
    obtain ⟨_, e2, _⟩ := F.g2
    obtain ⟨_, e3, _⟩ := F.m1
    obtain ⟨_, e4, _⟩ := F.m2
    exact ⟨lt F.z, lt F.i, lt F.o, lt e1, lt e2, lt e3, lt e4⟩
  have sz : (s.heap.push { cls := .type "list", data := .seq #[] }).objs.size = s.heap.objs.size + 1 := Heap.size_push ..
  refine ⟨⟨_, r0, rfl⟩, PySem.F.args_list_init_2 _ _, init2 (A := A.in1) (s := { s with heap := s.heap.push { cls := .type "list", data := .seq #[] } }) hh (F.keep (S := s.heap.objs.size) ne fun d o _ e => Heap.get?_push_of_some _ e) ne r0 fun h' c T0 T1 j1 j2 j3 j4 j5 j6 j7 j8 j9 => ⟨rfl, ?_⟩⟩
  exact hQ h' c T0 T1 (fun d o d2 d3 d4 d5 e => j1 d o (Nat.ne_of_lt (Heap.lt_size e)) d2 d3 d4 d5 (Heap.get?_push_of_some _ e)) (Nat.lt_of_succ_le (by rw [← Nat.succ_eq_add_one] at sz; rw [← sz]; exact j2)) (Nat.lt_of_succ_le (by rw [← Nat.succ_eq_add_one] at sz; rw [← sz]; exact j3)) j4 j7 j8 j9
end
end LZ
namespace Z
open L2 PySem PySem.Spec PyProof.Rows
open Evl (Ex ex_l ex_t ex_rd fresh_back)
section
variable {X : Cx} {pins : List (Addr × Obj)} {σ : L2.St} {H : Hp} {s : Shared} {h' : Heap}
/-- two pairs and a list of them, laid at once -/
def lay3 (H : Hp) (S T0 T1 : Addr) (x0 y0 x1 y1 : V) : Hp := upd (upd (upd H T0 (.tup [x0, y0])) T1 (.tup [x1, y1])) S (.lst [.ref T0, .ref T1])
theorem inv_lay3 {tk : Nat} {c : Nat} {S T0 T1 : Addr} {x0 y0 x1 y1 : V} {u0 v0 u1 v1 : Value} (I : Inv X pins σ H s) (hk : ∀ d o, s.heap.get? d = some o → h'.get? d = some o) (bS : s.heap.objs.size ≤ S) (b0 : s.heap.objs.size ≤ T0) (b1 : s.heap.objs.size ≤ T1) (n01 : T0 ≠ T1) (n0 : T0 ≠ S) (n1 : T1 ≠ S)
    (r1 : RelV x0 u0) (r2 : RelV y0 v0) (r3 : RelV x1 u1) (r4 : RelV y1 v1) (p0 : IsPair h' T0 u0 v0) (p1 : IsPair h' T1 u1 v1) (l : h'.get? S = some { cls := .type "list", dict := none, data := .seq #[.ref T0, .ref T1] c, slots := #[] }) :
    Inv X pins σ (lay3 H S T0 T1 x0 y0 x1 y1) { s with heap := h', toks := tk } := by
  have z0 : H T0 = none := I.hok.fresh b0
  have z1 : H T1 = none := I.hok.fresh b1
  have zS : H S = none := I.hok.fresh bS
  have off : ∀ d, d ≠ T0 → d ≠ T1 → d ≠ S → lay3 H S T0 T1 x0 y0 x1 y1 d = H d := fun d e0 e1 eS => by unfold lay3; rw [upd_ne eS, upd_ne e1, upd_ne e0]
  have at0 : lay3 H S T0 T1 x0 y0 x1 y1 T0 = some (.tup [x0, y0]) := by unfold lay3; rw [upd_ne n0, upd_ne n01, upd_same]
  have at1 : lay3 H S T0 T1 x0 y0 x1 y1 T1 = some (.tup [x1, y1]) := by unfold lay3; rw [upd_ne n1, upd_same]
  have atS : lay3 H S T0 T1 x0 y0 x1 y1 S = some (.lst [.ref T0, .ref T1]) := by unfold lay3; rw [upd_same]
  have low : ∀ d o, s.heap.get? d = some o → d ≠ T0 ∧ d ≠ T1 ∧ d ≠ S := fun d o e => ⟨Nat.ne_of_lt (Nat.lt_of_lt_of_le (Heap.lt_size e) b0), Nat.ne_of_lt (Nat.lt_of_lt_of_le (Heap.lt_size e) b1), Nat.ne_of_lt (Nat.lt_of_lt_of_le (Heap.lt_size e) bS)⟩
  have kp : ∀ d u, H d = some u → lay3 H S T0 T1 x0 y0 x1 y1 d = some u := fun d u e => by
    rw [off d (fun z => by rw [z, z0] at e; cases e) (fun z => by rw [z, z1] at e; cases e) (fun z => by rw [z, zS] at e; cases e)]
    exact e
  refine I.call' (ch := []) rfl ⟨fun d o g _ _ _ => hk d o g, fun d o g _ _ _ => ⟨o.slots, hk d o g⟩, fun d o g n _ => ?_, fun d o g _ => ⟨o, hk d o g⟩, fun d xs g => kp d _ g, fun d o u g => kp d _ g, fun d ps g => ⟨#[], by rw [kp d _ g]; simp⟩⟩ (fun d u g => ?_) I.bare fun d z => by simp at z
  · obtain ⟨w0, w1, wS⟩ := low d o g
    rw [off d w0 w1 wS]
    exact n
  · by_cases d0 : d = T0
    · subst d0
      rw [at0] at g
      cases g
      exact ⟨by show 2 ≤ sizeLine; decide, [u0, v0], .cons r1 (.cons r2 .nil), ⟨_, p0, rfl, _, rfl⟩⟩
    · by_cases d1 : d = T1
      · subst d1
        rw [at1] at g
        cases g
        exact ⟨by show 2 ≤ sizeLine; decide, [u1, v1], .cons r3 (.cons r4 .nil), ⟨_, p1, rfl, _, rfl⟩⟩
      · by_cases dS : d = S
        · subst dS
          rw [atS] at g
          cases g
          exact ⟨by show 2 ≤ sizeLine; decide, [.ref T0, .ref T1], c, .cons rfl (.cons rfl .nil), l⟩
        · rw [off d d0 d1 dS] at g
          exact (I.hok d u g).stay (fun e v _ y => hk e v y) (fun e y => kp e _ y) fun e xs y => kp e _ y
/-- list(zip(e, e2)), pairs both -/
def rLZ (K : Fg) : List V → Hp → VK → Prop := fun vs H1 Q => ∃ p1 p2 x0 x1 y0 y1, vs = [.ref p1, .ref p2] ∧ SqT K H1 p1 [x0, x1] ∧ SqT K H1 p2 [y0, y1] ∧
  ∀ S T0 T1, H1 S = none → H1 T0 = none → H1 T1 = none → T0 ≠ T1 → T0 ≠ S → T1 ≠ S → Q (.ref S) (lay3 H1 S T0 T1 x0 y0 x1 y1)
def tLZ (K : Fg) (ta : TA) : TE := fun σ H Q => ta σ H fun vs H1 => rLZ K vs H1 Q
variable {e e2 : Expr} {ta : TA} {p p2 pos pos2 : Pos}
theorem pe_listZ (hc : X.calm = true) (hg : Gl X "list") (hm : X.mg "list" = none) (hg2 : Gl X "zip") (hm2 : X.mg "zip" = none) (ha : PA X [e, e2] ta)
    (hs : starEach [e, e2] X.env = (false, eval e X.env) :: starEach [e2] X.env := by rfl) (hpl : (backTo pos2 (starEach [e2] X.env)).any (·.1) = false := by rfl)
    (na : starEach [.Call (.Name "zip" p2) [e, e2] [] pos2] X.env = (false, eval (.Call (.Name "zip" p2) [e, e2] [] pos2) X.env) :: starEach [] X.env := by rfl) :
    PE X (.Call (.Name "list" p) [.Call (.Name "zip" p2) [e, e2] [] pos2] [] pos) (tLZ X.K ta) := by
  refine ⟨fun pins s σ H Q I h => ?_⟩
  refine Call_ (ld_blt I hg hm boot_list (PyProof.Rows.callWith_type1 (args_cons (Call_ (ld_blt I hg2 hm2 PyProof.Rows.boot_zip (PyProof.Rows.callWith_type1 (thn (ha.run pos2 pins s σ H _ I h) fun us s1 ⟨vs, H1, I1, r1, q1⟩ => ?_) hs hpl))) na) na))
  obtain ⟨a, b, x0, x1, y0, y1, ex, hqx, hqy, q⟩ := q1
  subst ex
  cases r1 with
  | cons r rr =>
    cases rr with
    | cons r' rr =>
      cases rr
      cases r
      cases r'
      obtain ⟨its, rv, m1, _⟩ := I1.tuple hqx
      obtain ⟨its2, rv2, m2, _⟩ := I1.tuple hqy
      obtain ⟨u0, u1, rfl, ru0, ru1⟩ := vals2 rv
      obtain ⟨v0, v1, rfl, rv0, rv1⟩ := vals2 rv2
      obtain ⟨o1, ho1, _⟩ := id m1
      obtain ⟨o2, ho2, _⟩ := id m2
      refine RZ.call_zipT (show s1.heap.IsTuple a #[u0, u1] from m1) (show s1.heap.IsTuple b #[v0, v1] from m2) fun h1 hz hTI hTO g1 g2 hsz hk => args_nil ?_
      have ap := PySem.W.ktu_apart s1.heap.objs.size a b (Heap.lt_size ho1) (Heap.lt_size ho2)
      have F : LZ.Fresh h1 (s1.heap.objs.size + 4) (s1.heap.objs.size + 2) (s1.heap.objs.size + 3) s1.heap.objs.size (s1.heap.objs.size + 1) a b u0 u1 v0 v1 .none .none := ⟨ap, hz, hTI, hTO, g1, g2, Heap.IsTuple.at (show s1.heap.IsTuple a #[u0, u1] from m1) fun o y => hk _ o y, Heap.IsTuple.at (show s1.heap.IsTuple b #[v0, v1] from m2) fun o y => hk _ o y⟩
      refine LZ.call2 (s := { s1 with heap := h1 }) (I1.ok.hd hc) F fun h2 c T0 T1 k1 k2 k3 k4 k5 k6 k7 => ?_
      dsimp only at k1 k2 k3 k7 ⊢
      have up : ∀ d o, s1.heap.get? d = some o → h2.get? d = some o := fun d o y => by
        have hd := Heap.lt_size y
        exact k1 d o (Nat.ne_of_lt (Nat.lt_of_lt_of_le hd (Nat.le_add_right _ _))) (Nat.ne_of_lt (Nat.lt_of_lt_of_le hd (Nat.le_add_right _ _))) (Nat.ne_of_lt hd) (Nat.ne_of_lt (Nat.lt_of_lt_of_le hd (Nat.le_add_right _ _))) (hk d o y)
      have bS : s1.heap.objs.size ≤ h1.objs.size := by rw [hsz]; exact Nat.le_add_right _ _
      have b0 := Nat.le_trans bS (Nat.le_of_lt k2)
      have b1 := Nat.le_trans bS (Nat.le_of_lt k3)
      refine ⟨.ref h1.objs.size, _, inv_lay3 (tk := s1.toks) I1 up bS b0 b1 k4 (Nat.ne_of_gt k2) (Nat.ne_of_gt k3) ru0 rv0 ru1 rv1 k5 k6 k7, rfl, q _ T0 T1 (I1.hok.fresh bS) (I1.hok.fresh b0) (I1.hok.fresh b1) k4 (Nat.ne_of_gt k2) (Nat.ne_of_gt k3)⟩
def cLZ : CF := fun rs post => match rs with
  | [.val (.tuple [d0, d1]), .val (.tuple [e0, e1])] => post (.list [.tuple [d0, e0], .tuple [d1, e1]])
  | _ => False
theorem ok_LZ {K : Fg} : CallOk K (rLZ K) cLZ := fun F H a fu vs rs post Q e t hf k => by
  unfold cLZ at hf
  split at hf
  · rename_i d0 d1 e0 e1
    cases t with
    | cons r t =>
      cases t with
      | cons r' t =>
        cases t
        replace r : Rp K F _ (.tuple [d0, d1]) := r
        replace r' : Rp K F _ (.tuple [e0, e1]) := r'
        cases r with
        | tup sq m =>
          cases r' with
          | tup sq' m' =>
            cases m with
            | cons a0 m =>
              cases m with
              | cons a1 m =>
                cases m
                cases m' with
                | cons b0 m' =>
                  cases m' with
                  | cons b1 m' =>
                    cases m'
                    rename_i w3 w2 w1 w0
                    refine ⟨_, _, _, _, _, _, rfl, ex_t e sq, ex_t e sq', fun S T0 T1 hS h0 h1 n01 n0 n1 => ?_⟩
                    have g1 := Gr.new (o := .tup [w3, w1]) e h0
                    have g2 := Gr.new (o := .tup [w2, w0]) (p := T1) g1.s (by rw [upd_ne (Ne.symm n01)]; exact h1)
                    have g3 := Gr.new (o := .lst [.ref T0, .ref T1]) (p := S) g2.s (by rw [upd_ne (Ne.symm n1), upd_ne (Ne.symm n0)]; exact hS)
                    have gr := (g1.trans g2).trans g3
                    refine k _ _ _ _ hf gr (.lst upd_same (.cons (.tup (.inl (.inl ?_)) (.cons (a0.mono gr.f _ _) (.cons (b0.mono gr.f _ _) .nil))) (.cons (.tup (.inl (.inl ?_)) (.cons (a1.mono gr.f _ _) (.cons (b1.mono gr.f _ _) .nil))) .nil)))
                    · rw [upd_ne n0, upd_ne n01, upd_same]
                    · rw [upd_ne n1, upd_same]
  · exact hf.elim
theorem e_listZ {tr : DA} (hc : X.calm = true) (hg : Gl X "list") (hm : X.mg "list" = none) (hg2 : Gl X "zip") (hm2 : X.mg "zip" = none) (ha : PA X [e, e2] (upA X.K tr))
    (hs : starEach [e, e2] X.env = (false, eval e X.env) :: starEach [e2] X.env := by rfl) (hpl : (backTo pos2 (starEach [e2] X.env)).any (·.1) = false := by rfl)
    (na : starEach [.Call (.Name "zip" p2) [e, e2] [] pos2] X.env = (false, eval (.Call (.Name "zip" p2) [e, e2] [] pos2) X.env) :: starEach [] X.env := by rfl) :
    PE X (.Call (.Name "list" p) [.Call (.Name "zip" p2) [e, e2] [] pos2] [] pos) (up X.K (dCB cLZ tr)) := pe_to (pe_listZ hc hg hm hg2 hm2 ha hs hpl na) (cb_core ok_LZ)
end
end Z

namespace Z
open L2 PySem PySem.Spec PyProof.Rows
open Evl (Ex ex_l ex_t ex_rd fresh_back)
/-! ### zones -/
instance : DecidableEq Th := fun a b => decidable_of_iff (a.n = b.n ∧ a.d = b.d ∧ a.up = b.up) ⟨fun h => by cases a; cases b; simp_all, fun h => by subst h; exact ⟨rfl, rfl, rfl⟩⟩
def Bef (t u : Th) : Prop := t.n * u.d < u.n * t.d ∨ (t.n * u.d = u.n * t.d ∧ t.up = true ∧ u.up = false)
instance (t u : Th) : Decidable (Bef t u) := by unfold Bef; infer_instance
def zoT (l h : Th) : Da := .tuple [num l.n l.d, num h.n h.d, .bool l.up, .bool (!h.up)]
def zoD (t u : Th) : Da := if t = u then .none else if Bef t u then zoT t u else zoT u t
def znD (w : Int) (T U : Bool → Th) : Da := .tuple [if w = 1 then .none else zoD (T false) (U false), zoD (T true) (U true)]
theorem eqv_th (t u : Th) : (thD t).eqv (thD u) = decide (t = u) := by
  unfold thD
  simp only [PyData.eqv, PyData.eqvAll]
  rw [Bool.eq_iff_iff]
  simp only [Bool.and_eq_true, Bool.and_true, decide_eq_true_eq, beq_iff_eq]
  constructor
  · rintro ⟨⟨h1, h2⟩, h3⟩
    have h4 : t.up = u.up := by
      revert h3
      cases t.up <;> cases u.up <;> first | (intro _; rfl) | (intro h; exact absurd h (by decide +kernel))
    cases t
    cases u
    simp_all
  · rintro rfl
    exact ⟨⟨rfl, rfl⟩, rfl⟩
theorem th_eq {t u : Th} (ht : t.Ok) (hu : u.Ok) (gt : Int.gcd t.n t.d = 1) (gu : Int.gcd u.n u.d = 1) (h : t.n * u.d = u.n * t.d) (hs : t.up = u.up) : t = u := by
  have := low_uniq ht.d0 hu.d0 gt gu h
  cases t
  cases u
  simp_all
/-- of two that differ one is first -/
theorem bef_total {t u : Th} (ht : t.Ok) (hu : u.Ok) (gt : Int.gcd t.n t.d = 1) (gu : Int.gcd u.n u.d = 1) (hne : t ≠ u) (h : ¬Bef t u) : Bef u t := by
  unfold Bef at *
  rcases Int.lt_trichotomy (t.n * u.d) (u.n * t.d) with q | q | q
  · exact absurd (.inl q) h
  · refine .inr ⟨q.symm, ?_, ?_⟩
    · cases hu1 : u.up with
      | true => rfl
      | false =>
        cases ht1 : t.up with
        | true => exact absurd (.inr ⟨q, ht1, hu1⟩) h
        | false => exact absurd (th_eq ht hu gt gu q (by rw [ht1, hu1])) hne
    · cases ht1 : t.up with
      | false => rfl
      | true =>
        cases hu1 : u.up with
        | false => exact absurd (.inr ⟨q, ht1, hu1⟩) h
        | true => exact absurd (th_eq ht hu gt gu q (by rw [ht1, hu1])) hne
  · exact .inl q
theorem bef_first {t u : Th} (ht : t.Ok) (hu : u.Ok) (gt : Int.gcd t.n t.d = 1) (gu : Int.gcd u.n u.d = 1) (hne : t ≠ u) : (t.n * u.d < u.n * t.d ∨ (t.n * u.d = u.n * t.d ∧ t.up = true)) ↔ Bef t u := by
  unfold Bef
  constructor
  · rintro (q | ⟨q1, q2⟩)
    · exact .inl q
    · refine .inr ⟨q1, q2, ?_⟩
      cases hu1 : u.up with
      | false => rfl
      | true => exact absurd (th_eq ht hu gt gu q1 (by rw [q2, hu1])) hne
  · rintro (q | ⟨q1, q2, _⟩)
    · exact .inl q
    · exact .inr ⟨q1, q2⟩
/-- what is above the later one is above the first -/
theorem bef_abv {l h : Th} (hl : l.Ok) (hh : h.Ok) (b : Bef l h) {x y : Int} (hy : 0 < y) (a : Abv x y h) : Abv x y l := by
  have dl := hl.d0
  have dh := hh.d0
  unfold Abv Bef at *
  have key : l.n * y * h.d ≤ h.n * y * l.d := by
    have : l.n * h.d ≤ h.n * l.d := by rcases b with q | ⟨q, _⟩ <;> omega
    have := Int.mul_le_mul_of_nonneg_right this (Int.le_of_lt hy)
    grind
  rcases a with q | ⟨q1, q2⟩
  · refine .inl (Int.lt_of_mul_lt_mul_right (a := h.d) ?_ (Int.le_of_lt dh))
    have := Int.mul_lt_mul_of_pos_right q dl
    grind
  · rcases b with b | ⟨b1, b2, b3⟩
    · refine .inl (Int.lt_of_mul_lt_mul_right (a := h.d) ?_ (Int.le_of_lt dh))
      have h1 := Int.mul_lt_mul_of_pos_right b hy
      have h2 : h.n * y * l.d = x * h.d * l.d := by rw [q1]
      grind
    · rw [b3] at q2
      cases q2
def lohi (t u : Th) : Th × Th := if Bef t u then (t, u) else (u, t)
theorem zoD_lohi {t u : Th} (hne : t ≠ u) : zoD t u = zoT (lohi t u).1 (lohi t u).2 := by
  unfold zoD lohi
  rw [if_neg hne]
  split <;> rfl
/-- in the zone: just where the two part -/
theorem zone_iff {t u : Th} (ht : t.Ok) (hu : u.Ok) (gt : Int.gcd t.n t.d = 1) (gu : Int.gcd u.n u.d = 1) (hne : t ≠ u) {x y : Int} (hy : 0 < y) :
    (Abv x y (lohi t u).1 ∧ ¬Abv x y (lohi t u).2) ↔ ¬(Abv x y t ↔ Abv x y u) := by
  unfold lohi
  by_cases b : Bef t u
  · rw [if_pos b]
    have := bef_abv ht hu b hy (x := x)
    constructor
    · rintro ⟨a1, a2⟩ h
      exact a2 (h.mp a1)
    · intro h
      by_cases a2 : Abv x y u
      · exact absurd ⟨fun _ => a2, fun _ => this a2⟩ h
      · refine ⟨?_, a2⟩
        by_cases a1 : Abv x y t
        · exact a1
        · exact absurd ⟨fun z => absurd z a1, fun z => absurd z a2⟩ h
  · rw [if_neg b]
    have := bef_abv hu ht (bef_total ht hu gt gu hne b) hy (x := x)
    constructor
    · rintro ⟨a1, a2⟩ h
      exact a2 (h.mpr a1)
    · intro h
      by_cases a2 : Abv x y t
      · exact absurd ⟨fun _ => this a2, fun _ => a2⟩ h
      · refine ⟨?_, a2⟩
        by_cases a1 : Abv x y u
        · exact a1
        · exact absurd ⟨fun z => absurd z a2, fun z => absurd z a1⟩ h
theorem nabv {x y : Int} {t : Th} : (¬Abv x y t) ↔ (x * t.d < t.n * y ∨ (x * t.d = t.n * y ∧ t.up = false)) := by
  unfold Abv
  cases t.up <;> simp <;> omega
theorem sh_zo {t u : Th} (h1 : Bn 200 t.n) (h2 : Bn 200 t.d) (h3 : Bn 200 u.n) (h4 : Bn 200 u.d) : (zoD t u).canLay0 = true ∧ (zoD t u).showable = true ∧ (zoD t u).depth ≤ 2 ∧ szD (zoD t u) ≤ 8000 := by
  have k : ∀ l h : Th, Bn 200 l.n → Bn 200 l.d → Bn 200 h.n → Bn 200 h.d → (zoT l h).canLay0 = true ∧ (zoT l h).showable = true ∧ (zoT l h).depth ≤ 2 ∧ szD (zoT l h) ≤ 8000 := fun l h a b c d => by
    have s1 := showI (a.mono (show 200 ≤ 1900 by decide))
    have s2 := showI (b.mono (show 200 ≤ 1900 by decide))
    have s3 := showI (c.mono (show 200 ≤ 1900 by decide))
    have s4 := showI (d.mono (show 200 ≤ 1900 by decide))
    refine ⟨rfl, ?_, by show 2 ≤ 2; decide, by show (1921 + 2 + (1921 + 2 + 0) + 3) + 2 + ((1921 + 2 + (1921 + 2 + 0) + 3) + 2 + (5 + 2 + (5 + 2 + 0))) + 3 ≤ 8000; decide⟩
    unfold zoT
    simp [PyData.showable, PyData.showableAll, s1, s2, s3, s4]
  unfold zoD
  split
  · exact ⟨rfl, rfl, by show 0 ≤ 2; decide, by show 4 ≤ 8000; decide⟩
  · split
    · exact k t u h1 h2 h3 h4
    · exact k u t h3 h4 h1 h2
theorem sh_zn {w : Int} {T U : Bool → Th} (hT : ThB 101 T) (hU : ThB 101 U) : Sh (znD w T U) ∧ Cps (znD w T U).shown := by
  have b : ∀ (V : Bool → Th), ThB 101 V → ∀ c, Bn 200 (V c).n ∧ Bn 200 (V c).d := fun V hV c => ⟨(hV.bn c).1.mono (by decide), (hV.bn c).2.mono (by decide)⟩
  obtain ⟨a1, a2, a3, a4⟩ := sh_zo (b T hT true).1 (b T hT true).2 (b U hU true).1 (b U hU true).2
  obtain ⟨c1, c2, c3, c4⟩ : (if w = 1 then PyData.none else zoD (T false) (U false)).canLay0 = true ∧ (if w = 1 then PyData.none else zoD (T false) (U false)).showable = true ∧ (if w = 1 then PyData.none else zoD (T false) (U false)).depth ≤ 2 ∧ szD (if w = 1 then PyData.none else zoD (T false) (U false)) ≤ 8000 := by
    split
    · exact ⟨rfl, rfl, by show 0 ≤ 2; decide, by show 4 ≤ 8000; decide⟩
    · exact sh_zo (b T hT false).1 (b T hT false).2 (b U hU false).1 (b U hU false).2
  have cl : (znD w T U).canLay0 = true := by unfold znD; simp [PyData.canLay0, PyData.canLayAll0, a1, c1]
  refine ⟨⟨cl, by unfold znD; simp [PyData.showable, PyData.showableAll, a2, c2], ?_, ?_⟩, cps_shown _ cl⟩
  · unfold znD
    simp only [PyData.depth, PyData.depthAll]
    omega
  · unfold znD
    simp only [szD, szAll]
    omega
end Z

namespace LZ
open L2 PySem PySem.Spec PyProof.Rows
/-! ### enumerate(tuple) -/
theorem enum_new1 {v : Value} {ob : Obj} {Hv : Heap → Prop} (B : Begins v ob Hv) :
    Meets (Builtin.«enumerate.__new__» ⟨[.type "enumerate", v], []⟩) (fun _ R s => Hv s.heap ∧
      R (.ok (.ret (.ref (s.heap.push ob).objs.size))) { s with heap := (s.heap.push ob).push { cls := .type "enumerate", data := .fields #[.none, .bool false, .ref s.heap.objs.size, rawInt 0, .none, .none] } }) := by
  refine .of_wp fun prog w A R s ⟨hv, h⟩ => ?_
  obtain ⟨hp, g, d, tk, os⟩ := s
  have hsub := sub_enumerate
  have go : ∀ {A' : Around} {E' : Value → Shared → Prop} {Q' : Value → Shared → Prop}, Q' (.ref hp.objs.size) ⟨hp.push ob, g, d, tk, os⟩ → wpAny (model prog w) A' (pyIter v) Q' E' ⟨hp, g, d, tk, os⟩ :=
    fun q => B.iter prog w _ _ ⟨hp, g, d, tk, os⟩ _ hv q
  wp_walk using go
  refine wpAny_stack_any fun st => wpAny_pure ?_
  split
  · rename_i c _ _ _ _ _
    cases (c == Value.type "enumerate") <;> (wp_walk using go; exact ⟨_, rfl, h⟩)
  · wp_walk using go
    exact ⟨_, rfl, h⟩
section
variable {prog : Program} {w : World} {A : Around} {E : Value → Shared → Prop} {s : Shared}
theorem call_enumB {v : Value} {ob : Obj} {Hv : Heap → Prop} {Q : Value → Shared → Prop} (B : Begins v ob Hv) (hv : Hv s.heap)
    (h : ∀ h', IsEnum h' (s.heap.objs.size + 1) s.heap.objs.size 0 .none → h'.get? s.heap.objs.size = some ob → (∀ b o, s.heap.get? b = some o → h'.get? b = some o) → Q (.ref (s.heap.objs.size + 1)) { s with heap := h' }) :
    wpAny (model prog w) A (call (.type "enumerate") [v]) Q E s := by
  refine callType_new F.called_enumerate (by decide) (F.typeCall_enumerate_1 _) (F.newCall_enumerate_1 _) (fun obj => F.args_object_init_2 obj _) F.entry_enumerate_new (enum_new1 B) ⟨hv, ?_⟩
  have z1 : (s.heap.push ob).objs.size = s.heap.objs.size + 1 := Heap.size_push ..
  show _ ∧ _
  rw [z1]
  have en := Heap.get?_push_size (s.heap.push ob) (o := { cls := .type "enumerate", data := .fields #[.none, .bool false, .ref s.heap.objs.size, rawInt 0, .none, .none] }) rfl
  rw [z1] at en
  exact ⟨⟨_, en, rfl⟩, h _ en (Heap.get?_push_of_some _ (Heap.get?_push_size _ B.free)) fun b o x => Heap.get?_push_of_some _ (Heap.get?_push_of_some _ x)⟩
end
def ItEn (K : PySem.W.Frag) (a : Addr) : It :=
  ⟨fun i H => ∃ (xs : List V) (x : V), SqT K H a xs ∧ xs[i]? = some x, fun i H v H' => ∃ T x, v = .ref T ∧ H T = none ∧ H' = upd H T (.tup [.int (i : Nat), x]) ∧ ∀ xs, SqT K H a xs → xs[i]? = some x, fun i H => ∃ xs : List V, SqT K H a xs ∧ xs.length = i⟩
theorem turn_en {P : Program} {w : World} {K : PySem.W.Frag} {elts : List Expr} {kk : Nat} {tpos : Pos} (a e it : Addr) (hae : a ≠ e) (hai : a ≠ it) :
    Turn P w K (.Tuple elts kk tpos) (ItEn K a) [e, it] e (fun i h => (∃ old, IsEnum h e it ((i : Nat) : Int) old) ∧ h.IsTupleIter it a i ∧ e ≠ it) where
  mem := List.mem_cons_self ..
  obj := fun i h st b hb => by
    obtain ⟨⟨old, he⟩, ⟨o, ho, hc, hd⟩, _⟩ := st
    rcases List.mem_cons.mp hb with rfl | hb
    · exact ⟨_, he, fun v q => nomatch q⟩
    · rw [List.mem_singleton.mp hb]
      exact ⟨o, ho, fun v q => by rw [hd] at q; cases q⟩
  keep := fun i h h' st k => ⟨st.1.imp fun old he => k e (List.mem_cons_self ..) _ he, st.2.1.at fun o q => k it (List.mem_cons_of_mem _ (List.mem_singleton.mpr rfl)) o q, st.2.2⟩
  item := by
    intro X hP hw hK hc i pins s σ H E I hf st hg
    subst hP hw hK
    obtain ⟨⟨old, he⟩, hit, hne⟩ := st
    obtain ⟨xs, x, hq, hx⟩ := hg
    obtain ⟨its, rv, p, hz⟩ := I.tuple hq
    obtain ⟨u, hu, ru⟩ := rv.get hx
    have hel : e < s.heap.objs.size := Heap.lt_size he
    have hil : it < s.heap.objs.size := by obtain ⟨_, q, _⟩ := hit; exact Heap.lt_size q
    have D := Draws.tuple (prog := X.prog) (w := X.w) (A := X.A.in1) (I.ok.hd hc) it a hai its.toArray
    have hlt : i < its.toArray.size := by
      have := (List.getElem?_eq_some_iff.mp hu).1
      simpa using this
    refine wpAny_pyNext_enum_itemD D he ⟨hit, p⟩ hlt hne (by simp [hne, Ne.symm hae]) fun y h' tk hy ho hst hT hsz hk => ?_
    obtain rfl : u = y := by
      have e1 : its.toArray[i]? = some u := by simpa using hu
      rw [e1] at hy
      exact Option.some.inj hy
    refine ⟨_, rfl, wpAny_letOwnedTupleGo_enum (s := { s with heap := h', toks := tk + 1 }) ho fun h'' he' sb => ?_⟩
    have hT2 := (sb.2 _ (Nat.ne_of_gt hel)).trans hT
    have new : ObjOk X.prog X.w (upd H s.heap.objs.size (.tup [.int (i : Nat), x])) h'' s.heap.objs.size (.tup [.int (i : Nat), x]) :=
      ⟨by show 2 ≤ sizeLine; decide, [.int i tk, u], .cons ⟨_, rfl⟩ (.cons ru .nil), ⟨_, hT2, rfl, _, rfl⟩⟩
    have I1 : Inv X pins σ (upd H s.heap.objs.size (.tup [.int (i : Nat), x])) { s with heap := h'', toks := tk + 1 } :=
      I.turnedNew (ch := [e, it]) (fun b ob hb q => (sb.2 b (fun z => hb (by simp [z]))).trans (hk b ob (fun z => hb (by simp [z])) (fun z => hb (by simp [z])) q)) hf (Nat.le_refl _) new
    refine ⟨.ref s.heap.objs.size, _, I1, rfl, ⟨_, x, rfl, I.hok.fresh (Nat.le_refl _), rfl, fun ys hy => by rw [I.tuple_inj hy hq]; exact hx⟩, ⟨⟨u, ?_⟩, hst.1.at fun o q => (sb.2 it (Ne.symm hne)).trans q, hne⟩, fun b hb => ?_⟩
    · rw [show ((i + 1 : Nat) : Int) = (i : Int) + 1 by omega]
      exact he'
    · have hb' : b < s.heap.objs.size := by
        rcases List.mem_cons.mp hb with rfl | hb
        · exact hel
        · rw [List.mem_singleton.mp hb]
          exact hil
      rw [upd_ne (Nat.ne_of_lt hb')]
      exact (hf b hb).1
  done := by
    intro X hP hw hK hc i pins s σ H E I hf st hg
    subst hP hw hK
    obtain ⟨⟨old, he⟩, hit, hne⟩ := st
    obtain ⟨xs, hq, hx⟩ := hg
    obtain ⟨its, rv, p, hz⟩ := I.tuple hq
    obtain ⟨f0, f1, f2, f3, f4, f5⟩ := hf it (by simp)
    have hl := rv.length
    have D := Draws.tuple (prog := X.prog) (w := X.w) (A := X.A.in1) (I.ok.hd hc) it a hai its.toArray
    have hn : i = its.toArray.size := by simp; omega
    subst hn
    exact wpAny_pyNext_enum_endD D he ⟨hit, p⟩ fun h' eb => ⟨rfl, I.turned (t' := s.toks) (fun b o hb q => eb b o hb q) f0 f1 f3 f4 f5⟩
  self := fun A i s Q E st h => by
    obtain ⟨⟨_, he⟩, _⟩ := st
    exact wpAny_pyIter_enum he h
def iEn (K : PySem.W.Frag) (ta : TA) : TI := fun σ H R => ta σ H fun vs H1 => ∃ a xs, vs = [.ref a] ∧ ((SqL K H1 a xs ∧ R (Ite K a) H1) ∨ (SqT K H1 a xs ∧ R (ItEn K a) H1))
theorem pi_en {X : Cx} {e : Expr} {ta : TA} {p pos tpos : Pos} {elts : List Expr} {kk : Nat} (hg : Gl X "enumerate") (hm : X.mg "enumerate" = none) (ha : PA X [e] ta) (hs : starEach [e] X.env = (false, eval e X.env) :: starEach [] X.env := by rfl) :
    PI X (.Tuple elts kk tpos) (.Call (.Name "enumerate" p) [e] [] pos) (iEn X.K ta) := by
  refine ⟨fun pins s σ H R I h => ?_⟩
  refine Call_ (ld_blt I hg hm boot_enumerate (PyProof.Rows.callWith_type1 (thn (ha.run pos pins s σ H _ I h) fun us s1 ⟨vs, H1, I1, r1, q1⟩ => ?_) hs rfl))
  obtain ⟨a, xs, rfl, q1⟩ := q1
  cases r1 with
  | cons r rr =>
    cases rr
    cases r
    have fp : ∀ b ∈ [s1.heap.objs.size + 1, s1.heap.objs.size], FpOk X pins H1 b := fun b hb => by
      have hle : s1.heap.objs.size ≤ b := by
        rcases List.mem_cons.mp hb with rfl | hb
        · exact Nat.le_add_right _ _
        · rw [List.mem_singleton.mp hb]
          exact Nat.le_refl _
      exact I1.fpOk hle (I1.hok.fresh hle)
    rcases q1 with ⟨hq, q⟩ | ⟨hq, q⟩
    · obtain ⟨its, rv, p', hz⟩ := I1.list hq
      refine call_enumB (begins_list a its.toArray) p'.isList fun h' he hit hk => wpAny_pyIter_enum he ?_
      have I2 : Inv X pins σ H1 { s1 with heap := h' } := I1.kept (t' := s1.toks) hk
      exact ⟨s1.heap.objs.size + 1, [s1.heap.objs.size + 1, s1.heap.objs.size], _, _, H1, rfl, I2, turn_enum a (s1.heap.objs.size + 1) s1.heap.objs.size, ⟨⟨.none, he⟩, ⟨_, hit, rfl, rfl⟩, Nat.succ_ne_self _⟩, fp, q⟩
    · obtain ⟨its, rv, p', hz⟩ := I1.tuple hq
      have pl : a < s1.heap.objs.size := by obtain ⟨_, q, _⟩ := id p'; exact Heap.lt_size q
      refine call_enumB (begins_tuple a its.toArray) p' fun h' he hit hk => wpAny_pyIter_enum he ?_
      have I2 : Inv X pins σ H1 { s1 with heap := h' } := I1.kept (t' := s1.toks) hk
      exact ⟨s1.heap.objs.size + 1, [s1.heap.objs.size + 1, s1.heap.objs.size], _, _, H1, rfl, I2, turn_en a (s1.heap.objs.size + 1) s1.heap.objs.size (Nat.ne_of_lt (Nat.lt_succ_of_lt pl)) (Nat.ne_of_lt pl), ⟨⟨.none, he⟩, ⟨_, hit, rfl, rfl⟩, Nat.succ_ne_self _⟩, fp, q⟩
end LZ
namespace Z
open L2 PySem PySem.Spec PyProof.Rows
open Evl (Ex ex_l ex_t ex_rd fresh_back)
def enD : Int → List Da → List Da
  | _, [] => []
  | i, x :: xs => .tuple [.int i, x] :: enD (i + 1) xs
theorem enD_len : ∀ {xs : List Da} {k : Int}, (enD k xs).length = xs.length
  | [], _ => rfl
  | x :: xs, k => by
    show (enD (k + 1) xs).length + 1 = xs.length + 1
    rw [enD_len]
theorem enD_get : ∀ {xs : List Da} {k : Int} {i : Nat} {x : Da}, xs[i]? = some x → (enD k xs)[i]? = some (.tuple [.int (k + (i : Nat)), x])
  | [], _, _, _, h => by simp at h
  | y :: xs, k, 0, x, h => by
    simp at h
    subst h
    show some (PyData.tuple [.int k, y]) = _
    rw [show k + ((0 : Nat) : Int) = k by omega]
  | y :: xs, k, i + 1, x, h => by
    have e := enD_get (k := k + 1) (show xs[i]? = some x by simpa using h)
    show (enD (k + 1) xs)[i]? = _
    rw [e, show k + 1 + (i : Int) = k + ((i + 1 : Nat) : Int) by omega]
def dEnum (te : DE) : DW := fun g Q => te g fun r g1 => match r with
  | .val (.list ds) => Q (enD 0 ds) g1
  | .val (.tuple ds) => Q (enD 0 ds) g1
  | _ => False
section
variable {K : Fg}
theorem walkD_enT {p : Addr} {ds : List Da} : WalkD K (LZ.ItEn K p) (enD 0 ds) [.ref p] [.val (.tuple ds)] := by
  have get : ∀ {F H : Hp} {a : Addr} {fu : Option Nat}, Ex F H → Tm K F a fu [.ref p] [.val (.tuple ds)] → ∃ xs, SqT K H p xs ∧ Rps K F xs ds := fun {F H a fu} e t => by
    obtain ⟨v, e1, h2⟩ := t.v1
    cases e1
    cases h2 with
    | tup sq m => exact ⟨_, ex_t e sq, m⟩
  refine ⟨fun i F H a fu e t hi => ?_, fun F H a fu e t => ?_, fun i F H a fu x H' e t hi y => ?_⟩
  · obtain ⟨xs, s1, m1⟩ := get e t
    rw [enD_len] at hi
    obtain ⟨v, h1, _⟩ := m1.get (List.getElem?_eq_getElem (show i < ds.length by omega))
    exact ⟨xs, v, s1, h1⟩
  · obtain ⟨xs, s1, m1⟩ := get e t
    refine ⟨xs, s1, ?_⟩
    rw [enD_len, m1.len]
  · obtain ⟨xs, s1, m1⟩ := get e t
    obtain ⟨T, u, rfl, nT, rfl, h1⟩ := y
    rw [enD_len] at hi
    have g1 : ds[i]? = some ds[i] := List.getElem?_eq_getElem (by omega)
    obtain ⟨u', e1, r1⟩ := m1.get g1
    rw [h1 xs s1] at e1
    cases e1
    have gr := Gr.new (o := .tup [.int (i : Nat), u]) e nT
    refine ⟨_, _, enD_get g1, gr, ?_⟩
    rw [Int.zero_add]
    exact .tup (.inl (.inl upd_same)) (.cons (.int _) (.cons (r1.up gr.f) .nil))
theorem walkD_enL {p : Addr} {ds : List Da} : WalkD K (Ite K p) (enD 0 ds) [.ref p] [.val (.list ds)] := by
  have get : ∀ {F H : Hp} {a : Addr} {fu : Option Nat}, Ex F H → Tm K F a fu [.ref p] [.val (.list ds)] → ∃ xs, SqL K H p xs ∧ Rps K F xs ds := fun {F H a fu} e t => by
    obtain ⟨v, e1, h2⟩ := t.v1
    cases e1
    cases h2 with
    | lst sq m => exact ⟨_, .inl (.inl (e _ _ sq)), m⟩
  refine ⟨fun i F H a fu e t hi => ?_, fun F H a fu e t => ?_, fun i F H a fu x H' e t hi y => ?_⟩
  · obtain ⟨xs, s1, m1⟩ := get e t
    rw [enD_len] at hi
    obtain ⟨v, h1, _⟩ := m1.get (List.getElem?_eq_getElem (show i < ds.length by omega))
    exact ⟨xs, v, s1, h1⟩
  · obtain ⟨xs, s1, m1⟩ := get e t
    refine ⟨xs, s1, ?_⟩
    rw [enD_len, m1.len]
    exact Nat.le_refl _
  · obtain ⟨xs, s1, m1⟩ := get e t
    obtain ⟨T, u, rfl, nT, rfl, h1⟩ := y
    rw [enD_len] at hi
    have g1 : ds[i]? = some ds[i] := List.getElem?_eq_getElem (by omega)
    obtain ⟨u', e1, r1⟩ := m1.get g1
    rw [h1 xs s1] at e1
    cases e1
    have gr := Gr.new (o := .tup [.int (i : Nat), u]) e nT
    refine ⟨_, _, enD_get g1, gr, ?_⟩
    rw [Int.zero_add]
    exact .tup (.inl (.inl upd_same)) (.cons (.int _) (.cons (r1.up gr.f) .nil))
end
theorem i_enum {X : Cx} {a : Expr} {ta : DE} {p pos tpos : Pos} {elts : List Expr} {kk : Nat} (hg : Gl X "enumerate") (hm : X.mg "enumerate" = none) (ha : PE X a (up X.K ta)) (hs : starEach [a] X.env = (false, eval a X.env) :: starEach [] X.env := by rfl) :
    PI X (.Tuple elts kk tpos) (.Call (.Name "enumerate" p) [a] [] pos) (upI X.K (dEnum ta)) := pi_to (LZ.pi_en hg hm (pa_cons ha pa_nil hs) hs) fun σ H R q => by
  obtain ⟨c, g, tv, tr, F, a, post, s, t, k⟩ := q
  refine ⟨c, g, tv, tr, F, a, _, s, t, fun r g1 v H1 F1 a1 t1 s1 => ?_⟩
  split at t1
  · rename_i xs
    have hr : Rp X.K F1 v (.list xs) := s1.top
    cases hr with
    | lst q1 m1 => exact ⟨_, _, rfl, .inl ⟨.inl (.inl (s1.eh _ _ q1)), k _ g1 H1 F1 a1 _ [_] [_] t1 s1 rfl rfl walkD_enL⟩⟩
  · rename_i xs
    have hr : Rp X.K F1 v (.tuple xs) := s1.top
    cases hr with
    | tup q1 m1 => exact ⟨_, _, rfl, .inr ⟨ex_t s1.eh q1, k _ g1 H1 F1 a1 _ [_] [_] t1 s1 rfl rfl walkD_enT⟩⟩
  · exact t1.elim
end Z

namespace Z
open L2 PySem PySem.Spec PyProof.Rows
/-! ### slices by an index; all of a row of bools -/
theorem sIx_k {n k : Nat} {d : Nat} (h : k ≤ n) : HT.sIx n d (some (k : Int)) = k := by
  rw [HT.sIx_nat]
  omega
theorem cut_to {ds : List Da} {k : Nat} (h : k ≤ ds.length) : Z.cutD ds none (some (k : Int)) = ds.take k := by
  unfold Z.cutD
  rw [sIx_k h, HT.sIx_none]
  rfl
theorem cut_from {ds : List Da} {k : Nat} (h : k ≤ ds.length) : Z.cutD ds (some (k : Int)) none = ds.drop k := by
  unfold Z.cutD
  rw [sIx_k h, HT.sIx_none, List.take_of_length_le (by rw [List.length_drop]; omega)]
theorem bools_map {α : Type} (f : α → Bool) : ∀ c : List α, boolsD (c.map fun o => .bool (f o)) = some (c.map f)
  | [] => rfl
  | a :: c => by
    show (boolsD (c.map fun o => .bool (f o))).map (f a :: ·) = _
    rw [bools_map f c]
    rfl
theorem all_mapD {α : Type} (f : α → Bool) : ∀ c : List α, (c.map f).all id = true ↔ ∀ o ∈ c, f o = true
  | [] => by simp
  | a :: c => by simp
/-! ### shown data, by depth and size -/
structure ShB (k z : Nat) (d : Da) : Prop where
  lay : d.canLay0 = true
  sh : d.showable = true
  dp : d.depth ≤ k
  sz : szD d ≤ z
theorem ShB.Sh {k z : Nat} {d : Da} (h : ShB k z d) (hk : k ≤ 60) (hz : z ≤ 16000000) : Sh d := ⟨h.lay, h.sh, Nat.le_trans h.dp hk, Nat.le_trans h.sz hz⟩
theorem ShB.cps {k z : Nat} {d : Da} (h : ShB k z d) : Cps d.shown := cps_shown d h.lay
theorem ShB.shaped {k z : Nat} {d : Da} (h : ShB k z d) (hk : k ≤ 64) : SeqAt.shaped d = true := by
  unfold SeqAt.shaped
  rw [h.lay, Bool.true_and]
  exact decide_eq_true (Nat.le_trans h.dp hk)
theorem ShB.refl {k z : Nat} {d : Da} (h : ShB k z d) : d.eqv d = true := SeqAt.eqv_refl d h.lay
theorem ShB.mono {k z k' z' : Nat} {d : Da} (h : ShB k z d) (hk : k ≤ k') (hz : z ≤ z') : ShB k' z' d := ⟨h.lay, h.sh, Nat.le_trans h.dp hk, Nat.le_trans h.sz hz⟩
theorem ShB.int {i : Int} (h : Bn 1900 i) : ShB 0 1921 (.int i) := ⟨rfl, decide_eq_true (showI h), Nat.le_refl _, Nat.le_refl _⟩
theorem ShB.none : ShB 0 1921 .none := ⟨rfl, rfl, Nat.le_refl _, by show 4 ≤ 1921; decide⟩
theorem ShB.bool (b : Bool) : ShB 0 1921 (.bool b) := ⟨rfl, rfl, Nat.le_refl _, by show 5 ≤ 1921; decide⟩
theorem ShB.str {x : Str} (h : PyData.strOk x = true) (hl : x.length ≤ 100) : ShB 0 1921 (.str x) := ⟨h, rfl, Nat.le_refl _, by show 10 * x.length + 2 ≤ 1921; omega⟩
theorem ShB.all {k z : Nat} : ∀ {ds : List Da}, (∀ d ∈ ds, ShB k z d) → PyData.canLayAll0 ds = true ∧ PyData.showableAll ds = true ∧ PyData.depthAll ds ≤ k ∧ szAll ds ≤ ds.length * (z + 2)
  | [], _ => ⟨rfl, rfl, Nat.zero_le _, Nat.zero_le _⟩
  | d :: ds, h => by
    obtain ⟨i1, i2, i3, i4⟩ := ShB.all (ds := ds) fun e he => h e (List.mem_cons_of_mem _ he)
    have h0 := h d (List.mem_cons_self ..)
    have h1 := h0.dp
    have h2 := h0.sz
    refine ⟨by simp [PyData.canLayAll0, h0.lay, i1], by simp [PyData.showableAll, h0.sh, i2], ?_, ?_⟩
    · simp only [PyData.depthAll]
      omega
    · rw [List.length_cons, Nat.succ_mul]
      simp only [szAll]
      omega
theorem ShB.tup {k z n : Nat} {ds : List Da} (h : ∀ d ∈ ds, ShB k z d) (hn : ds.length ≤ n) : ShB (k + 1) (n * (z + 2) + 3) (.tuple ds) := by
  obtain ⟨i1, i2, i3, i4⟩ := ShB.all h
  have := Nat.mul_le_mul_right (z + 2) hn
  refine ⟨by simpa [PyData.canLay0] using i1, by simpa [PyData.showable] using i2, ?_, ?_⟩
  · simp only [PyData.depth]
    omega
  · simp only [szD]
    omega
theorem ShB.lst {k z n : Nat} {ds : List Da} (h : ∀ d ∈ ds, ShB k z d) (hn : ds.length ≤ n) : ShB (k + 1) (n * (z + 2) + 3) (.list ds) := by
  obtain ⟨i1, i2, i3, i4⟩ := ShB.all h
  have := Nat.mul_le_mul_right (z + 2) hn
  refine ⟨by simpa [PyData.canLay0] using i1, by simpa [PyData.showable] using i2, ?_, ?_⟩
  · simp only [PyData.depth]
    omega
  · simp only [szD]
    omega
theorem ShB.two {k z : Nat} {a b : Da} (ha : ShB k z a) (hb : ShB k z b) : ∀ d ∈ [a, b], ShB k z d := fun d hd => by
  simp only [List.mem_cons, List.not_mem_nil, or_false] at hd
  rcases hd with rfl | rfl
  · exact ha
  · exact hb
theorem ShB.num {n d : Int} (hn : Bn 1900 n) (hd : Bn 1900 d) : ShB 1 4000 (num n d) := (ShB.tup (ShB.two (ShB.int hn) (ShB.int hd)) (n := 2) (Nat.le_refl 2)).mono (by decide) (by decide)
theorem ru_len (r : Ru) : r.s.length ≤ 100 := by cases r <;> decide +kernel
theorem ShB.st (s : Int × Ru) (h1 : 1 ≤ s.1) (h2 : s.1 ≤ 100) : ShB 1 4000 (stD s) := (ShB.tup (ShB.two (ShB.int (Bn.small (by omega) (by omega) (by decide))) (ShB.str (ru_ok s.2) (ru_len s.2))) (n := 2) (Nat.le_refl 2)).mono (by decide) (by decide)
theorem ShB.ch {c : List (Int × Ru)} (hw : Wds c) (hl : c.length ≤ 12) : ShB 2 50000 (chD c) := (ShB.tup (k := 1) (z := 4000) (fun d hd => by
  obtain ⟨s, hs, rfl⟩ := List.mem_map.mp hd
  exact ShB.st s (hw s hs).1 (hw s hs).2) (n := 12) (by rw [List.length_map]; exact hl)).mono (by decide) (by decide)
theorem shaped_th (t : Th) : SeqAt.shaped (thD t) = true := by
  have h := sd_ok t.up
  unfold SeqAt.shaped thD
  simp [PyData.canLay0, PyData.canLayAll0, h, PyData.depth, PyData.depthAll]
theorem shaped_prD (w : Int) (T : Bool → Th) : SeqAt.shaped (Z.prD w T) = true := by
  have h1 := sd_ok (T true).up
  have h0 := sd_ok (T false).up
  unfold SeqAt.shaped Z.prD thD
  by_cases q : w = 1
  · rw [if_pos q]
    simp [PyData.canLay0, PyData.canLayAll0, h1, PyData.depth, PyData.depthAll]
  · rw [if_neg q]
    simp [PyData.canLay0, PyData.canLayAll0, h1, h0, PyData.depth, PyData.depthAll]
end Z

namespace Z
open L2 PySem PySem.Spec PyProof.Rows
/-! ### where two chains part -/
/-- a chain at a point of a grid of any step -/
theorem appl_point {c : List (Int × Ru)} {k i y : Int} (hc : Chn1 c) (k1 : 2 ^ ((chT c).1 - 1).toNat ≤ k) (k2 : k < 2 ^ (chT c).1.toNat) (i0 : 0 ≤ i) (i1 : i < y) (bY : Bn 300 y) :
    NuB 1000 (low (k * y + i) y).1 (low (k * y + i) y).2 ∧ applI (low (k * y + i) y).1 (low (k * y + i) y).2 c = (k + (if Abv i y ((chT c).2 (decide (k % 2 = 1))) then 1 else 0), 1) := by
  obtain ⟨hB, w1, w2⟩ := chT_B hc.ne hc.w
  have y0 : 0 < y := by omega
  have k0 : 0 < k := Int.lt_of_lt_of_le (pow2_pos _) k1
  have bk : Bn 102 k := (Bn.pow2 (n := (chT c).1.toNat) (m := 102) (by omega)).le (Int.le_of_lt k0) (Int.le_of_lt k2)
  have kp := Int.mul_pos k0 y0
  have x0 : 0 < k * y + i := by omega
  obtain ⟨l1, l2, l3, l4, l5⟩ := low_pos x0 y0
  have bx : Bn 500 (k * y + i) := ((bk.mul bY).add ((bY.le i0 (Int.le_of_lt i1)).mono (by decide))).mono (by decide)
  have nb : NuB 1000 (low (k * y + i) y).1 (low (k * y + i) y).2 := NuB.of l1 l2 l3 ((bx.le (Int.le_of_lt l1) l4).mono (by decide)) ((bY.le (Int.le_of_lt l2) l5).mono (by decide))
  have e1 : (k * y + i) / y = k := by
    rw [Int.mul_comm, Int.mul_add_ediv_left _ _ (by omega), Int.ediv_eq_zero_of_lt i0 i1, Int.add_zero]
  have e2 : (k * y + i) % y = i := by
    rw [Int.emod_def, e1]
    grind
  refine ⟨nb, ?_⟩
  rw [chain_law hc.ne hc.w nb.nu, thr_low x0 y0 w1 (by rw [e1]; exact k1) (by rw [e1]; exact k2), e1, e2]
theorem abv_mono {i j p : Int} {t : Th} (hd : 0 < t.d) (h : Abv i p t) (hij : i ≤ j) : Abv j p t := by
  unfold Abv at *
  have k := Int.mul_le_mul_of_nonneg_right hij (Int.le_of_lt hd)
  rcases h with q | ⟨q1, q2⟩
  · exact .inl (Int.lt_of_lt_of_le q k)
  · by_cases e : t.n * p = j * t.d
    · exact .inr ⟨e, q2⟩
    · exact .inl (by omega)
def fpJ (l : Th) (p : Int) : Int := if Abv (l.n * p / l.d) p l then l.n * p / l.d else l.n * p / l.d + 1
def fpI (l h : Th) (p : Int) : Option Int := if Abv (fpJ l p) p h then none else some (fpJ l p)
theorem fpJ_abv {l : Th} {p : Int} (hl : l.Ok) : Abv (fpJ l p) p l := by
  unfold fpJ
  split
  · assumption
  · refine .inl ?_
    have h1 := Int.emod_lt_of_pos (l.n * p) hl.d0
    have h2 := Int.mul_ediv_add_emod (l.n * p) l.d
    rw [Int.add_mul, Int.one_mul, Int.mul_comm (l.n * p / l.d)]
    omega
theorem fpJ_min {l : Th} {p i : Int} (hl : l.Ok) (h : Abv i p l) : fpJ l p ≤ i := by
  have h1 := Int.emod_nonneg (l.n * p) (Int.ne_of_gt hl.d0)
  have h2 := Int.mul_ediv_add_emod (l.n * p) l.d
  have k : l.n * p / l.d ≤ i := by
    have hi : l.n * p ≤ i * l.d := by rcases h with q | ⟨q, _⟩ <;> omega
    refine Int.le_of_mul_le_mul_right (a := l.d) ?_ hl.d0
    rw [Int.mul_comm (l.n * p / l.d)]
    omega
  unfold fpJ
  split
  · exact k
  · rename_i z
    by_cases e : l.n * p / l.d = i
    · rw [e] at z
      exact absurd h z
    · omega
def Dif (T U : Bool → Th) (b : Bool) (i p : Int) : Prop := ¬(Abv i p (T b) ↔ Abv i p (U b))
def zfp (T U : Bool → Th) (b : Bool) (p : Int) : Option Int := if T b = U b then none else fpI (lohi (T b) (U b)).1 (lohi (T b) (U b)).2 p
theorem lohi_ok {t u : Th} (ht : t.Ok) (hu : u.Ok) : (lohi t u).1.Ok ∧ (lohi t u).2.Ok := by
  unfold lohi
  split
  · exact ⟨ht, hu⟩
  · exact ⟨hu, ht⟩
theorem zfp_some {T U : Bool → Th} {b : Bool} {p j : Int} (hT : ThB 101 T) (hU : ThB 101 U) (hp : 0 < p) (h : zfp T U b p = some j) : Dif T U b j p ∧ 0 < j ∧ j < p ∧ ∀ i, Dif T U b i p → j ≤ i := by
  unfold zfp at h
  split at h
  · cases h
  · rename_i ne
    obtain ⟨o1, o2⟩ := lohi_ok (hT.ok b) (hU.ok b)
    have zi := fun x => zone_iff (x := x) (hT.ok b) (hU.ok b) (hT.g b) (hU.g b) ne hp
    unfold fpI at h
    split at h
    · cases h
    · rename_i na
      obtain rfl : fpJ _ p = j := Option.some.inj h
      have a1 := fpJ_abv (p := p) o1
      refine ⟨(zi _).mp ⟨a1, na⟩, ?_, ?_, fun i hi => fpJ_min o1 ((zi i).mpr hi).1⟩
      · rcases Int.lt_or_le 0 (fpJ (lohi (T b) (U b)).1 p) with q | q
        · exact q
        · exact absurd (abv_mono o1.d0 a1 q) (abv_zero o1 hp)
      · rcases Int.lt_or_le (fpJ (lohi (T b) (U b)).1 p) p with q | q
        · exact q
        · exact absurd (abv_mono o2.d0 (abv_one o2 hp) q) na
theorem zfp_none {T U : Bool → Th} {b : Bool} {p : Int} (hT : ThB 101 T) (hU : ThB 101 U) (hp : 0 < p) (h : zfp T U b p = none) (i : Int) : ¬Dif T U b i p := by
  unfold zfp at h
  split at h
  · rename_i e
    unfold Dif
    rw [e]
    simp
  · rename_i ne
    obtain ⟨o1, o2⟩ := lohi_ok (hT.ok b) (hU.ok b)
    unfold fpI at h
    split at h
    · rename_i na
      intro hd
      obtain ⟨a, c⟩ := (zone_iff (hT.ok b) (hU.ok b) (hT.g b) (hU.g b) ne hp).mpr hd
      exact c (abv_mono o2.d0 na (fpJ_min o1 a))
    · cases h
theorem bef_pt {l h : Th} {P : Int} (hl : l.Ok) (hh : h.Ok) (b : Bef l h) (hP : 0 < P) (d1 : l.d ∣ P) (d2 : h.d ∣ P) : ∃ i, Abv i (2 * P) l ∧ ¬Abv i (2 * P) h := by
  obtain ⟨x, hx⟩ := d1
  obtain ⟨y, hy⟩ := d2
  have x0 : 0 < x := by
    rcases Int.lt_or_le 0 x with q | q
    · exact q
    · have := Int.mul_nonpos_of_nonneg_of_nonpos (Int.le_of_lt hl.d0) q
      omega
  have y0 : 0 < y := by
    rcases Int.lt_or_le 0 y with q | q
    · exact q
    · have := Int.mul_nonpos_of_nonneg_of_nonpos (Int.le_of_lt hh.d0) q
      omega
  have e1 : l.n * (2 * P) = 2 * (l.n * x) * l.d := by rw [hx]; grind
  have e2 : h.n * (2 * P) = 2 * (h.n * y) * h.d := by rw [hy]; grind
  have k1 : l.n * h.d * (x * y) = l.n * x * P := by rw [hy]; grind
  have k2 : h.n * l.d * (x * y) = h.n * y * P := by rw [hx]; grind
  rcases b with q | ⟨q, u1, u2⟩
  · have := Int.mul_lt_mul_of_pos_right q (Int.mul_pos x0 y0)
    rw [k1, k2] at this
    have lt : l.n * x < h.n * y := Int.lt_of_mul_lt_mul_right this (Int.le_of_lt hP)
    refine ⟨2 * (l.n * x) + 1, .inl ?_, ?_⟩
    · rw [e1, Int.add_mul, Int.one_mul]
      have := hl.d0
      omega
    · rw [nabv, e2]
      refine .inl (Int.mul_lt_mul_of_pos_right (by omega) hh.d0)
  · have : l.n * h.d * (x * y) = h.n * l.d * (x * y) := by rw [q]
    rw [k1, k2] at this
    have eq : l.n * x = h.n * y := Int.eq_of_mul_eq_mul_right (Int.ne_of_gt hP) this
    refine ⟨2 * (l.n * x), .inr ⟨e1, u1⟩, ?_⟩
    rw [nabv, e2, eq]
    exact .inr ⟨rfl, u2⟩
theorem dif_ex {T U : Bool → Th} {b : Bool} {m : Nat} (hT : ThB 101 T) (hU : ThB 101 U) (dT : ThDv m T) (dU : ThDv m U) (ne : T b ≠ U b) : ∃ i, Dif T U b i (2 ^ (m + 1)) := by
  have P := pow2_pos m
  have zi := fun x => zone_iff (x := x) (y := 2 ^ (m + 1)) (hT.ok b) (hU.ok b) (hT.g b) (hU.g b) ne (pow2_pos _)
  obtain ⟨o1, o2⟩ := lohi_ok (hT.ok b) (hU.ok b)
  have bf : Bef (lohi (T b) (U b)).1 (lohi (T b) (U b)).2 := by
    unfold lohi
    by_cases q : Bef (T b) (U b)
    · rw [if_pos q]
      exact q
    · rw [if_neg q]
      exact bef_total (hT.ok b) (hU.ok b) (hT.g b) (hU.g b) ne q
  have dv : (lohi (T b) (U b)).1.d ∣ 2 ^ m ∧ (lohi (T b) (U b)).2.d ∣ 2 ^ m := by
    unfold lohi
    split
    · exact ⟨dT b, dU b⟩
    · exact ⟨dU b, dT b⟩
  obtain ⟨i, h⟩ := bef_pt o1 o2 bf P dv.1 dv.2
  rw [show (2 : Int) * 2 ^ m = 2 ^ (m + 1) by rw [Int.pow_succ, Int.mul_comm]] at h
  exact ⟨i, (zi i).mp h⟩
/-- the first place where two chains part: a grid of 2 ^ t, the parity of the cell, the index -/
structure SdAt (w : Int) (T U : Bool → Th) (t : Nat) (b : Bool) (j : Int) : Prop where
  b1 : w = 1 → b = true
  dif : Dif T U b j (2 ^ t)
  lo : 0 < j
  hi : j < 2 ^ t
  min : ∀ i, Dif T U b i (2 ^ t) → j ≤ i
  par : b = true → w ≠ 1 → ∀ i, ¬Dif T U false i (2 ^ t)
  pre : ∀ t', t' < t → ∀ b', (w = 1 → b' = true) → ∀ i, ¬Dif T U b' i (2 ^ t')
  tb : t ≤ 101
def sdk (w : Int) (b : Bool) : Int := 2 ^ (w - 1).toNat + (2 ^ (w - 1).toNat + (if b then 1 else 0)) % 2
theorem sdk_is {w : Int} {b : Bool} (hw : 1 ≤ w) (h1 : w = 1 → b = true) : 2 ^ (w - 1).toNat ≤ sdk w b ∧ sdk w b < 2 ^ w.toNat ∧ decide (sdk w b % 2 = 1) = b := by
  unfold sdk
  by_cases q : w = 1
  · subst q
    rw [h1 rfl]
    decide
  · obtain ⟨k, hk⟩ : ∃ k, (w - 1).toNat = k + 1 := ⟨(w - 1).toNat - 1, by omega⟩
    have hk' : w.toNat = k + 2 := by omega
    rw [hk, hk']
    have p := pow2_pos k
    have e1 : (2 : Int) ^ (k + 1) = 2 * 2 ^ k := by rw [Int.pow_succ, Int.mul_comm]
    have e2 : (2 : Int) ^ (k + 2) = 4 * 2 ^ k := by rw [Int.pow_succ, e1]; omega
    rw [e1, e2]
    cases b with
    | true => exact ⟨by simp <;> omega, by simp <;> omega, by simp <;> omega⟩
    | false => exact ⟨by simp, by simp <;> omega, by simp⟩
theorem SdAt.ne {w : Int} {T U : Bool → Th} {t : Nat} {b : Bool} {j : Int} (h : SdAt w T U t b j) : T b ≠ U b := fun e => h.dif (by rw [e])
end Z

namespace Z
open L2 PySem PySem.Spec PyProof.Rows
open Evl (Ex ex_l ex_t ex_rd fresh_back)
/-! ### slices of texts -/
def dSlS (ta : DE) (tl th : DO) : DE := fun g Q => ta g fun x g1 => tl g1 fun lo g2 => th g2 fun hi g3 => match x with
  | .val (.str z) => z.length ≤ sizeLine ∧ Q (.val (.str (cutS z lo hi))) g3
  | _ => False
section
variable {X : Cx} {lo hi : Option Expr} {tl th : DO} {ta : DE} {a : Expr} {p2 pos : Pos}
theorem e_slS (ha : PE X a (up X.K ta)) (hl : PO X lo (upO X.K tl)) (hu : PO X hi (upO X.K th)) : PE X (.Subscript a (.Slice lo hi none p2) pos) (up X.K (dSlS ta tl th)) := pe_to (pe_slice sl_str ha hl hu) fun σ H Q q => by
  obtain ⟨c, g, tv, tr, F, ad, post, s, t, k⟩ := q
  refine ⟨c, g, tv, tr, F, ad, _, s, t, fun x g1 v1 H1 F1 a1 t1 s1 => ?_⟩
  refine ⟨c, g1, _, _, F1, a1, _, s1, t1, fun l g2 H2 F2 a2 t2 s2 => ?_⟩
  refine ⟨c, g2, _, _, F2, a2, _, s2, t2, fun u g3 H3 F3 a3 t3 s3 => ?_⟩
  cases x with
  | val d =>
    cases d with
    | str z =>
      have hr : Rp X.K F3 v1 (.str z) := s3.top
      cases hr with
      | str => exact ⟨_, rfl, t3.1, k _ g3 _ _ _ a3 t3.2 (s3.pop1.push (r := .val (.str _)) (.str _))⟩
    | _ => exact t3.elim
  | _ => exact t3.elim
end
end Z

namespace Z
open L2 PySem PySem.Spec PyProof.Rows
/-! ### ints x with x * f / d in a zone: plain law -/
theorem dif_low {T U : Bool → Th} {b : Bool} {x y : Int} (hy : 0 < y) : Dif T U b (low x y).1 (low x y).2 ↔ Dif T U b x y := by
  unfold Dif
  rw [abv_low hy, abv_low hy]
instance (T U : Bool → Th) (b : Bool) (x y : Int) : Decidable (Dif T U b x y) := by unfold Dif; infer_instance
/-- x * f / d is a place where the two part -/
def DfX (w : Int) (T U : Bool → Th) (f d x : Int) : Prop := Dif T U (decide ((cellI (x * f) d w).1 % 2 = 1)) (posI (x * f) d w).1 (posI (x * f) d w).2
instance (w : Int) (T U : Bool → Th) (f d x : Int) : Decidable (DfX w T U f d x) := by unfold DfX; infer_instance
theorem cell_lowX {n d w : Int} (hn : 0 < n) (hd : 0 < d) (hw : 1 ≤ w) : cellI (low n d).1 (low n d).2 w = cellI n d w ∧ posI (low n d).1 (low n d).2 w = posI n d w := by
  obtain ⟨p, q, he⟩ : ∃ p q : Nat, (cellI n d w).2 = (p : Int) - q := ⟨((cellI n d w).2).toNat, (-(cellI n d w).2).toNat, by omega⟩
  obtain ⟨c1, c2, c3, c4⟩ := cell_pq hn hd hw p q he
  obtain ⟨l1, l2, _, _, _⟩ := low_pos hn hd
  have hv := low_val (x := n) hd
  generalize low n d = z at *
  have hb := Int.mul_pos hd (pow2_pos p)
  have hB := Int.mul_pos l2 (pow2_pos p)
  have cr : z.1 * 2 ^ q * (d * 2 ^ p) = n * 2 ^ q * (z.2 * 2 ^ p) := by grind
  have e1 : z.1 * 2 ^ q / (z.2 * 2 ^ p) = n * 2 ^ q / (d * 2 ^ p) := div_cross hB hb cr
  rw [c1] at c2 c3
  obtain ⟨k1, k2⟩ := cell_at (p := p) (q := q) l1 l2 hw (by rw [e1]; exact c2) (by rw [e1]; exact c3)
  refine ⟨?_, ?_⟩
  · rw [k1, e1, ← c1, ← he]
  · rw [k2, c4]
    exact low_cross hB hb (mod_cross hB hb cr)
theorem pow_inj {k k' e : Int} (hk : 0 < k) (hk' : 0 < k') : powI k e = powI k' e ↔ k = k' := by
  obtain ⟨p, q, he⟩ : ∃ p q : Nat, e = (p : Int) - q := ⟨e.toNat, (-e).toNat, by omega⟩
  have v := pow_val (k := k) he
  have v' := pow_val (k := k') he
  obtain ⟨_, y2, _⟩ := pow_pos (k := k) (e := e) hk
  refine ⟨fun h => ?_, fun h => by rw [h]⟩
  rw [← h] at v'
  have := v.symm.trans v'
  have h2 := pow2_pos p
  have e1 : k * 2 ^ p = k' * 2 ^ p := Int.eq_of_mul_eq_mul_right (Int.ne_of_gt y2) this
  exact Int.eq_of_mul_eq_mul_right (Int.ne_of_gt h2) e1
theorem thr_df {n d w : Int} {T U : Bool → Th} (hn : 0 < n) (hd : 0 < d) (hw : 1 ≤ w) :
    thrI (low n d).1 (low n d).2 w T ≠ thrI (low n d).1 (low n d).2 w U ↔ Dif T U (decide ((cellI n d w).1 % 2 = 1)) (posI n d w).1 (posI n d w).2 := by
  obtain ⟨e1, e2⟩ := cell_lowX hn hd hw
  obtain ⟨_, c2, _, _⟩ := cellI_spec hn hd hw
  have k0 : 0 < (cellI n d w).1 := Int.lt_of_lt_of_le (pow2_pos _) c2
  unfold thrI Dif
  rw [e1, e2]
  generalize (decide ((cellI n d w).1 % 2 = 1)) = b
  by_cases a : Abv (posI n d w).1 (posI n d w).2 (T b) <;> by_cases a' : Abv (posI n d w).1 (posI n d w).2 (U b)
  · rw [if_pos a, if_pos a']; simp [a, a']
  · rw [if_pos a, if_neg a', Ne, pow_inj (by omega) (by omega)]
    exact ⟨fun _ q => a' (q.mp a), fun _ => by omega⟩
  · rw [if_neg a, if_pos a', Ne, pow_inj (by omega) (by omega)]
    exact ⟨fun _ q => a (q.mpr a'), fun _ => by omega⟩
  · rw [if_neg a, if_neg a']; simp [a, a']
/-- two chains differ at x * f / d -/
theorem appl_df {c c' : List (Int × Ru)} {f d x : Int} (hc : Chn1 c) (hc' : Chn1 c') (hw : (chT c).1 = (chT c').1) (hx : 0 < x * f) (hd : 0 < d) :
    applI (low (x * f) d).1 (low (x * f) d).2 c ≠ applI (low (x * f) d).1 (low (x * f) d).2 c' ↔ DfX (chT c).1 (chT c).2 (chT c').2 f d x := by
  obtain ⟨_, w1, w2⟩ := chT_B hc.ne hc.w
  obtain ⟨l1, l2, l3, _, _⟩ := low_pos hx hd
  rw [chain_law hc.ne hc.w ⟨l1, l2, l3⟩, chain_law hc'.ne hc'.w ⟨l1, l2, l3⟩, ← hw]
  exact thr_df hx hd w1
/-- a piece of a range: one exponent -/
structure Pc (w f d st en s m : Int) : Prop where
  lt : st < en
  ex : ∃ p q : Nat, s = f * 2 ^ q ∧ m = d * 2 ^ p
  k1 : ∀ x, st ≤ x → x < en → 2 ^ (w - 1).toNat ≤ x * s / m
  k2 : ∀ x, st ≤ x → x < en → x * s / m < 2 ^ w.toNat
theorem Pc.m0 {w f d st en s m : Int} (h : Pc w f d st en s m) (hd : 0 < d) : 0 < m := by
  obtain ⟨p, q, _, rfl⟩ := h.ex
  exact Int.mul_pos hd (pow2_pos _)
theorem Pc.s0 {w f d st en s m : Int} (h : Pc w f d st en s m) (hf : 0 < f) : 0 < s := by
  obtain ⟨p, q, rfl, _⟩ := h.ex
  exact Int.mul_pos hf (pow2_pos _)
theorem Pc.df {w f d st en s m x : Int} {T U : Bool → Th} (h : Pc w f d st en s m) (hf : 0 < f) (hd : 0 < d) (hw : 1 ≤ w) (x0 : 0 < x) (x1 : st ≤ x) (x2 : x < en) :
    DfX w T U f d x ↔ Dif T U (decide (x * s / m % 2 = 1)) (x * s % m) m := by
  have k1 := h.k1 x x1 x2
  have k2 := h.k2 x x1 x2
  have m0 := h.m0 hd
  obtain ⟨p, q, rfl, rfl⟩ := h.ex
  rw [show x * (f * 2 ^ q) = x * f * 2 ^ q by rw [Int.mul_assoc]] at *
  obtain ⟨e1, e2⟩ := cell_at (p := p) (q := q) (Int.mul_pos x0 hf) hd hw k1 k2
  unfold DfX
  rw [e1, e2]
  exact dif_low m0
/-- remainders of one parity -/
def RI (T U : Bool → Th) (b : Bool) (m : Int) : Option (Int × Int) → Prop
  | none => ∀ r, 0 ≤ r → r < m → ¬Dif T U b r m
  | some p => 0 ≤ p.1 ∧ p.1 ≤ p.2 ∧ p.2 < m ∧ ∀ r, 0 ≤ r → r < m → (Dif T U b r m ↔ p.1 ≤ r ∧ r ≤ p.2)
def ivL (oe oo : Option (Int × Int)) (m : Int) : List (Int × Int) := oe.toList ++ oo.toList.map fun p => (p.1 + m, p.2 + m)
def IvOk (w : Int) (T U : Bool → Th) (m : Int) (oe oo : Option (Int × Int)) : Prop := (RI T U false m oe ∨ (w = 1 ∧ oe = none)) ∧ RI T U true m oo
theorem two_mod {y m : Int} (hm : 0 < m) : y % (2 * m) = y % m + (y / m % 2) * m := by
  have h1 := Int.mul_ediv_add_emod y m
  have h2 := Int.emod_nonneg y (show m ≠ 0 by omega)
  have h3 := Int.emod_lt_of_pos y hm
  generalize y / m = k at *
  generalize y % m = r at *
  have e : k = 2 * (k / 2) + k % 2 := (Int.mul_ediv_add_emod k 2).symm
  have kb := mod2 k
  generalize k / 2 = j at *
  generalize k % 2 = b at *
  refine (mod_of (t := y) (m := 2 * m) (q := j) (r := r + b * m) ?_ ?_ ?_).1
  · rw [← h1, e]; grind
  · have : 0 ≤ b * m := Int.mul_nonneg (by omega) (Int.le_of_lt hm)
    omega
  · have : b * m ≤ 1 * m := Int.mul_le_mul_of_nonneg_right (by omega) (Int.le_of_lt hm)
    omega
theorem iv_hit {w f d st en s m x : Int} {T U : Bool → Th} {oe oo : Option (Int × Int)} (h : Pc w f d st en s m) (hf : 0 < f) (hd : 0 < d) (hw : 1 ≤ w) (x0 : 0 < x) (x1 : st ≤ x) (x2 : x < en) (io : IvOk w T U m oe oo) :
    DfX w T U f d x ↔ ∃ iv ∈ ivL oe oo m, Hit s (2 * m) iv.1 iv.2 x := by
  have m0 := h.m0 hd
  have k1 := h.k1 x x1 x2
  have k2 := h.k2 x x1 x2
  rw [h.df hf hd hw x0 x1 x2]
  have tm := two_mod (y := x * s) m0
  have r0 := Int.emod_nonneg (x * s) (show m ≠ 0 by omega)
  have r1 := Int.emod_lt_of_pos (x * s) m0
  unfold Hit
  rw [Int.mul_comm s x, tm]
  generalize x * s / m = k at *
  generalize x * s % m = r at *
  obtain ⟨i1, i2⟩ := io
  have kb : k % 2 = 0 ∨ k % 2 = 1 := by omega
  rcases kb with kb | kb
  · have wn : w ≠ 1 := fun e => by
      subst e
      have : k = 1 := by
        have e1 : ((1 : Int) - 1).toNat = 0 := by decide
        have e2 : (1 : Int).toNat = 1 := by decide
        rw [e1] at k1
        rw [e2] at k2
        omega
      omega
    replace i1 : RI T U false m oe := by
      rcases i1 with q | ⟨q, _⟩
      · exact q
      · exact absurd q wn
    rw [kb, show decide ((0 : Int) = 1) = false from rfl, Int.zero_mul, Int.add_zero]
    unfold ivL
    constructor
    · intro hq
      cases oe with
      | none => exact absurd hq (i1 r r0 r1)
      | some p => exact ⟨p, List.mem_append_left _ (by simp), (i1.2.2.2 r r0 r1).mp hq⟩
    · rintro ⟨iv, hv, h1, h2⟩
      rcases List.mem_append.mp hv with hv | hv
      · cases oe with
        | none => simp at hv
        | some p =>
          simp at hv
          subst hv
          exact (i1.2.2.2 r r0 r1).mpr ⟨h1, h2⟩
      · obtain ⟨p, hp, rfl⟩ := List.mem_map.mp hv
        cases oo with
        | none => simp at hp
        | some p' =>
          simp at hp
          subst hp
          have := i2.1
          exfalso
          have : p.1 + m ≤ r := h1
          omega
  · rw [kb, show decide ((1 : Int) = 1) = true from rfl, Int.one_mul]
    unfold ivL
    constructor
    · intro hq
      cases oo with
      | none => exact absurd hq (i2 r r0 r1)
      | some p =>
        have := (i2.2.2.2 r r0 r1).mp hq
        exact ⟨(p.1 + m, p.2 + m), List.mem_append_right _ (by simp), by show p.1 + m ≤ r + m; omega, by show r + m ≤ p.2 + m; omega⟩
    · rintro ⟨iv, hv, h1, h2⟩
      rcases List.mem_append.mp hv with hv | hv
      · cases oe with
        | none => simp at hv
        | some p =>
          simp at hv
          subst hv
          exfalso
          rcases i1 with q | ⟨_, q⟩
          · have := q.2.2.1
            omega
          · cases q
      · obtain ⟨p, hp, rfl⟩ := List.mem_map.mp hv
        cases oo with
        | none => simp at hp
        | some p' =>
          simp at hp
          subst hp
          have a1 : p.1 + m ≤ r + m := h1
          have a2 : r + m ≤ p.2 + m := h2
          exact (i2.2.2.2 r r0 r1).mpr ⟨by omega, by omega⟩
/-- every interval is one of remainders by twice the modulus -/
theorem iv_rng {w m : Int} {T U : Bool → Th} {oe oo : Option (Int × Int)} (hm : 0 < m) (io : IvOk w T U m oe oo) : ∀ iv ∈ ivL oe oo m, 0 ≤ iv.1 ∧ iv.1 ≤ iv.2 ∧ iv.2 < 2 * m := by
  intro iv hv
  unfold ivL at hv
  obtain ⟨i1, i2⟩ := io
  rcases List.mem_append.mp hv with hv | hv
  · cases oe with
    | none => simp at hv
    | some p =>
      simp at hv
      subst hv
      rcases i1 with q | ⟨_, q⟩
      · obtain ⟨q1, q2, q3, _⟩ := q
        omega
      · cases q
  · obtain ⟨p, hp, rfl⟩ := List.mem_map.mp hv
    cases oo with
    | none => simp at hp
    | some p' =>
      simp at hp
      subst hp
      obtain ⟨q1, q2, q3, _⟩ := i2
      show 0 ≤ p.1 + m ∧ p.1 + m ≤ p.2 + m ∧ p.2 + m < 2 * m
      omega
/-- the first x of a range where the two part -/
def FX (w : Int) (T U : Bool → Th) (f d st sp : Int) : Option Int → Prop
  | some x => st ≤ x ∧ x < sp ∧ DfX w T U f d x ∧ ∀ y, st ≤ y → y < x → ¬DfX w T U f d y
  | none => ∀ y, st ≤ y → y < sp → ¬DfX w T U f d y
def cntX (w : Int) (T U : Bool → Th) (f d st : Int) : Nat → Int
  | 0 => 0
  | n + 1 => cntX w T U f d st n + (if DfX w T U f d (st + n) then 1 else 0)
theorem cntX_add (w : Int) (T U : Bool → Th) (f d st : Int) (n : Nat) : ∀ m : Nat, cntX w T U f d st (n + m) = cntX w T U f d st n + cntX w T U f d (st + n) m
  | 0 => by rw [Nat.add_zero, cntX]; omega
  | m + 1 => by
    rw [← Nat.add_assoc, cntX, cntX, cntX_add w T U f d st n m, show st + ((n + m : Nat) : Int) = st + n + m by omega]
    omega
theorem cntX_join {w f d a b c : Int} {T U : Bool → Th} (h1 : a ≤ b) (h2 : b ≤ c) : cntX w T U f d a (c - a).toNat = cntX w T U f d a (b - a).toNat + cntX w T U f d b (c - b).toNat := by
  have := cntX_add w T U f d a (b - a).toNat (c - b).toNat
  rw [show (b - a).toNat + (c - b).toNat = (c - a).toNat by omega, show a + ((b - a).toNat : Int) = b by omega] at this
  exact this
theorem FX_join {w f d a b c : Int} {T U : Bool → Th} (h1 : a ≤ b) (hn : FX w T U f d a b none) {r : Option Int} (h : FX w T U f d b c r) : FX w T U f d a c r := by
  cases r with
  | none =>
    intro y y0 y1
    by_cases q : y < b
    · exact hn y y0 q
    · exact h y (by omega) y1
  | some x =>
    obtain ⟨x0, x1, x2, x3⟩ := h
    refine ⟨by omega, x1, x2, fun y y0 y1 => ?_⟩
    by_cases q : y < b
    · exact hn y y0 q
    · exact x3 y (by omega) y1
theorem FX_front {w f d a b c x : Int} {T U : Bool → Th} (h2 : b ≤ c) (h : FX w T U f d a b (some x)) : FX w T U f d a c (some x) := by
  obtain ⟨x0, x1, x2, x3⟩ := h
  exact ⟨x0, by omega, x2, x3⟩
theorem cnt_iv {w f d st en s m : Int} {T U : Bool → Th} {oe oo : Option (Int × Int)} (h : Pc w f d st en s m) (hf : 0 < f) (hd : 0 < d) (hw : 1 ≤ w) (s0 : 0 < st) (io : IvOk w T U m oe oo) :
    ∀ n : Nat, st + n ≤ en → cntX w T U f d st n = ((ivL oe oo m).map fun iv => cntH s (2 * m) iv.1 iv.2 st n).sum
  | 0, _ => by
    unfold ivL cntX cntH
    cases oe <;> cases oo <;> rfl
  | n + 1, hn => by
    have ih := cnt_iv h hf hd hw s0 io n (by omega)
    have hit := iv_hit (x := st + n) h hf hd hw (by omega) (by omega) (by omega) io
    have m0 := h.m0 hd
    rw [cntX, ih]
    unfold ivL at hit ⊢
    unfold Hit at hit
    cases oe with
    | none =>
      cases oo with
      | none =>
        simp at hit ⊢
        exact hit
      | some q =>
        simp [cntH] at hit ⊢
        by_cases z : DfX w T U f d (st + n)
        · rw [if_pos z, if_pos (hit.mp z)]
        · rw [if_neg z, if_neg (fun y => z (hit.mpr y))]
    | some p =>
      cases oo with
      | none =>
        simp [cntH] at hit ⊢
        by_cases z : DfX w T U f d (st + n)
        · rw [if_pos z, if_pos (hit.mp z)]
        · rw [if_neg z, if_neg (fun y => z (hit.mpr y))]
      | some q =>
        have pm : p.2 < m := by
          rcases io.1 with z | ⟨_, z⟩
          · exact z.2.2.1
          · cases z
        have q0 : 0 ≤ q.1 := io.2.1
        simp [cntH] at hit ⊢
        generalize s * (st + n) % (2 * m) = r at hit ⊢
        by_cases z : DfX w T U f d (st + n)
        · rw [if_pos z]
          rcases hit.mp z with y | y
          · rw [if_pos y, if_neg (by omega)]; omega
          · rw [if_neg (by omega), if_pos y]; omega
        · rw [if_neg z, if_neg (fun y => z (hit.mpr (.inl y))), if_neg (fun y => z (hit.mpr (.inr y)))]; omega
/-- pieces of a range, in order -/
inductive Pcs (w f d sp : Int) : Int → List (Int × Int × Int × Int) → Prop
  | nil {st : Int} : sp ≤ st → Pcs w f d sp st []
  | cons {st en s m : Int} {ps : List (Int × Int × Int × Int)} : Pc w f d st en s m → en ≤ sp → Pcs w f d sp en ps → Pcs w f d sp st ((st, en, s, m) :: ps)
/-- the ends of a zone as remainders -/
def loR (l : Th) (m : Int) : Int := if l.up = false ∧ upI' (l.n * m) l.d * l.d = l.n * m then upI' (l.n * m) l.d + 1 else upI' (l.n * m) l.d
theorem loR_iff {l : Th} {m r : Int} (hl : l.Ok) : Abv r m l ↔ loR l m ≤ r := by
  have d0 := hl.d0
  have ui := up_iff (n := l.n * m) (x := r) d0
  obtain ⟨u1, u2⟩ := up_lt (n := l.n * m) d0
  unfold loR Abv
  generalize upI' (l.n * m) l.d = a at *
  generalize l.n * m = y at *
  rw [Int.mul_comm l.d r] at ui
  by_cases u : l.up = true
  · rw [u]
    simp
    rw [ui]
    omega
  · rw [Bool.not_eq_true] at u
    rw [u]
    simp
    split
    · rename_i e
      rw [← e, Int.mul_lt_mul_right d0]
      omega
    · rename_i e
      rw [ui]
      constructor
      · omega
      · intro h
        rcases Int.lt_or_eq_of_le h with q | q
        · exact q
        · exfalso
          have ar : a ≤ r := ui.mpr h
          rw [q] at u1
          have : l.d * (a - 1) < l.d * r := by rw [Int.mul_comm l.d r]; exact u1
          have ra : r ≤ a := by
            rw [q, Int.mul_comm] at u2
            have u3 : l.d * r ≤ l.d * a := by rw [Int.mul_comm l.d r, Int.mul_comm l.d a] ; rw [Int.mul_comm] at u2; first | exact u2 | (rw [Int.mul_comm l.d a] at u2; exact u2) | (rw [Int.mul_comm] at u2; exact u2)
            exact Int.le_of_mul_le_mul_left u3 d0
          have : a = r := by omega
          rw [this] at e
          exact e q.symm
def hiR (h : Th) (m : Int) : Int := if h.up = true ∧ min (h.n * m / h.d) (m - 1) * h.d = h.n * m then min (h.n * m / h.d) (m - 1) - 1 else min (h.n * m / h.d) (m - 1)
theorem hiR_iff {h : Th} {m r : Int} (hh : h.Ok) (r1 : r < m) : ¬Abv r m h ↔ r ≤ hiR h m := by
  have d0 := hh.d0
  have di := Int.le_ediv_iff_mul_le (a := r) (b := h.n * m) d0
  have dl : h.n * m / h.d * h.d ≤ h.n * m := Int.ediv_mul_le _ (Int.ne_of_gt d0)
  rw [nabv]
  unfold hiR
  generalize h.n * m / h.d = b0 at *
  have bl : min b0 (m - 1) * h.d ≤ h.n * m := Int.le_trans (Int.mul_le_mul_of_nonneg_right (by omega) (Int.le_of_lt d0)) dl
  have ri : r ≤ min b0 (m - 1) ↔ r * h.d ≤ h.n * m := by rw [← di]; omega
  generalize min b0 (m - 1) = b at *
  generalize h.n * m = y at *
  by_cases u : h.up = true
  · rw [u]
    simp
    split
    · rename_i e
      rw [← e, Int.mul_lt_mul_right d0]
      omega
    · rename_i e
      rw [ri]
      constructor
      · omega
      · intro q
        rcases Int.lt_or_eq_of_le q with q' | q'
        · exact q'
        · exfalso
          have rb : r ≤ b := ri.mpr q
          have : b * h.d ≤ r * h.d := by omega
          have := Int.le_of_mul_le_mul_right this d0
          have : b = r := by omega
          rw [this] at e
          exact e q'
  · rw [Bool.not_eq_true] at u
    rw [u]
    simp
    rw [ri]
    omega
def riI (T U : Bool → Th) (b : Bool) (m : Int) : Option (Int × Int) :=
  if T b = U b then none else if loR (lohi (T b) (U b)).1 m ≤ hiR (lohi (T b) (U b)).2 m then some (loR (lohi (T b) (U b)).1 m, hiR (lohi (T b) (U b)).2 m) else none
theorem loR_nn {l : Th} {m : Int} (hl : l.Ok) (hm : 0 < m) : 0 ≤ loR l m := by
  have n0 : 0 ≤ l.n * m := Int.mul_nonneg hl.n0 (Int.le_of_lt hm)
  have h : 0 ≤ upI' (l.n * m) l.d := by
    rcases Int.lt_or_le (upI' (l.n * m) l.d) 0 with q | q
    · exfalso
      have := (up_lt (n := l.n * m) hl.d0).2
      have : l.d * upI' (l.n * m) l.d < 0 := Int.mul_neg_of_pos_of_neg hl.d0 q
      omega
    · exact q
  unfold loR
  split <;> omega
theorem hiR_lt {h : Th} {m : Int} : hiR h m < m := by
  unfold hiR
  split <;> omega
theorem ri_ok {T U : Bool → Th} {b : Bool} {m : Int} (hT : ThB 101 T) (hU : ThB 101 U) (hm : 0 < m) : RI T U b m (riI T U b m) := by
  unfold riI
  split
  · rename_i e
    intro r _ _
    unfold Dif
    rw [e]
    simp
  · rename_i ne
    obtain ⟨o1, o2⟩ := lohi_ok (hT.ok b) (hU.ok b)
    have zi := fun r => zone_iff (x := r) (hT.ok b) (hU.ok b) (hT.g b) (hU.g b) ne hm
    split
    · rename_i q
      refine ⟨loR_nn o1 hm, q, hiR_lt, fun r r0 r1 => ?_⟩
      unfold Dif
      rw [← zi r, loR_iff o1, hiR_iff o2 r1]
    · rename_i q
      intro r r0 r1
      unfold Dif
      rw [← zi r, loR_iff o1, hiR_iff o2 r1]
      omega
/-- n / d < 2 ^ P, by any two exponents -/
theorem ltP {n d P : Int} {p q : Nat} (h : P = (p : Int) - q) : n * 2 ^ q < d * 2 ^ p ↔ n * 2 ^ (-P).toNat < d * 2 ^ P.toNat := by
  obtain ⟨c, hp, hq⟩ : ∃ c : Nat, p = P.toNat + c ∧ q = (-P).toNat + c := ⟨p - P.toNat, by omega, by omega⟩
  rw [hp, hq, Int.pow_add, Int.pow_add, ← Int.mul_assoc, ← Int.mul_assoc]
  exact Int.mul_lt_mul_right (pow2_pos c)
theorem bl_up {n d : Int} (hn : 0 < n) (hd : 0 < d) {P : Int} (h : bl n - bl d + 1 ≤ P) : n * 2 ^ (-P).toNat < d * 2 ^ P.toNat := by
  obtain ⟨a, ea, a1, a2⟩ := bl_pos hn
  obtain ⟨b, eb, b1, b2⟩ := bl_pos hd
  have h1 := Int.mul_lt_mul_of_pos_right a2 (pow2_pos (-P).toNat)
  have h2 := Int.mul_le_mul_of_nonneg_right b1 (Int.le_of_lt (pow2_pos P.toNat))
  rw [← Int.pow_add] at h1 h2
  have h3 : (2 : Int) ^ (a + 1 + (-P).toNat) ≤ 2 ^ (b + P.toNat) := pow_le2 (by omega)
  omega
theorem bl_dn {n d : Int} (hn : 0 < n) (hd : 0 < d) {P : Int} (h : P ≤ bl n - bl d - 1) : ¬n * 2 ^ (-P).toNat < d * 2 ^ P.toNat := by
  obtain ⟨a, ea, a1, a2⟩ := bl_pos hn
  obtain ⟨b, eb, b1, b2⟩ := bl_pos hd
  have h1 := Int.mul_le_mul_of_nonneg_right a1 (Int.le_of_lt (pow2_pos (-P).toNat))
  have h2 := Int.mul_lt_mul_of_pos_right b2 (pow2_pos P.toNat)
  rw [← Int.pow_add] at h1 h2
  have h3 : (2 : Int) ^ (b + 1 + P.toNat) ≤ 2 ^ (a + (-P).toNat) := pow_le2 (by omega)
  omega
theorem ltP_mono {n d P P' : Int} (hd : 0 < d) (h : n * 2 ^ (-P).toNat < d * 2 ^ P.toNat) (hP : P ≤ P') : n * 2 ^ (-P').toNat < d * 2 ^ P'.toNat := by
  obtain ⟨j, hj⟩ : ∃ j : Nat, P' = P + j := ⟨(P' - P).toNat, by omega⟩
  have e : P' = ((P.toNat + j : Nat) : Int) - ((-P).toNat : Nat) := by omega
  rw [← ltP e]
  have h1 : d * 2 ^ P.toNat ≤ d * 2 ^ (P.toNat + j) := Int.mul_le_mul_of_nonneg_left (pow_le2 (by omega)) (Int.le_of_lt hd)
  omega
theorem pc_of {w f d st sp P : Int} (hw : 1 ≤ w) (hf : 0 < f) (hd : 0 < d) (s0 : 0 < st) (lt : st < sp) (c1 : st * f * 2 ^ (-P).toNat < d * 2 ^ P.toNat) (c2 : ¬st * f * 2 ^ (-(P - 1)).toNat < d * 2 ^ (P - 1).toNat) :
    Pc w f d st (min sp (upI' (d * 2 ^ P.toNat) (f * 2 ^ (-P).toNat))) (f * 2 ^ (-(P - w)).toNat) (d * 2 ^ (P - w).toNat) := by
  have q0 := Int.mul_pos hf (pow2_pos (-P).toNat)
  have ui := fun x => up_iff (n := d * 2 ^ P.toNat) (x := x) q0
  have hm := Int.mul_pos hd (pow2_pos (P - w).toNat)
  refine ⟨?_, ⟨_, _, rfl, rfl⟩, fun x x0 x1 => ?_, fun x x0 x1 => ?_⟩
  · have : ¬upI' (d * 2 ^ P.toNat) (f * 2 ^ (-P).toNat) ≤ st := by
      rw [ui]
      have : f * 2 ^ (-P).toNat * st = st * f * 2 ^ (-P).toNat := by grind
      omega
    omega
  · rw [Int.le_ediv_iff_mul_le hm]
    have k : ¬x * f * 2 ^ (-(P - 1)).toNat < d * 2 ^ (P - 1).toNat := by
      have h1 : st * f ≤ x * f := Int.mul_le_mul_of_nonneg_right x0 (Int.le_of_lt hf)
      have h2 := Int.mul_le_mul_of_nonneg_right h1 (Int.le_of_lt (pow2_pos (-(P - 1)).toNat))
      omega
    have e : P - 1 = (((P - w).toNat + (w - 1).toNat : Nat) : Int) - ((-(P - w)).toNat : Nat) := by omega
    rw [← ltP e, Int.pow_add] at k
    rw [show (2 : Int) ^ (w - 1).toNat * (d * 2 ^ (P - w).toNat) = d * (2 ^ (P - w).toNat * 2 ^ (w - 1).toNat) by grind, ← Int.mul_assoc x f]
    omega
  · rw [Int.ediv_lt_iff_lt_mul hm]
    have k : x * f * 2 ^ (-P).toNat < d * 2 ^ P.toNat := by
      have : ¬upI' (d * 2 ^ P.toNat) (f * 2 ^ (-P).toNat) ≤ x := by omega
      rw [ui] at this
      have : f * 2 ^ (-P).toNat * x = x * f * 2 ^ (-P).toNat := by grind
      omega
    have e : P = (((P - w).toNat + w.toNat : Nat) : Int) - ((-(P - w)).toNat : Nat) := by omega
    rw [← ltP e, Int.pow_add] at k
    rw [show (2 : Int) ^ w.toNat * (d * 2 ^ (P - w).toNat) = d * (2 ^ (P - w).toNat * 2 ^ w.toNat) by grind, ← Int.mul_assoc x f]
    exact k
theorem pc_next {f d sp P : Int} (hf : 0 < f) (h : min sp (upI' (d * 2 ^ P.toNat) (f * 2 ^ (-P).toNat)) < sp) :
    ¬min sp (upI' (d * 2 ^ P.toNat) (f * 2 ^ (-P).toNat)) * f * 2 ^ (-P).toNat < d * 2 ^ P.toNat := by
  have q0 := Int.mul_pos hf (pow2_pos (-P).toNat)
  have e : min sp (upI' (d * 2 ^ P.toNat) (f * 2 ^ (-P).toNat)) = upI' (d * 2 ^ P.toNat) (f * 2 ^ (-P).toNat) := by omega
  rw [e]
  have := (up_iff (n := d * 2 ^ P.toNat) (x := upI' (d * 2 ^ P.toNat) (f * 2 ^ (-P).toNat)) q0).mp (Int.le_refl _)
  have e2 : ∀ x : Int, f * 2 ^ (-P).toNat * x = x * f * 2 ^ (-P).toNat := fun x => by grind
  rw [e2] at this
  omega
theorem Pcs.snoc {w f d sp st st' : Int} {ps : List (Int × Int × Int × Int)} (h : ∀ rs, Pcs w f d sp st' rs → Pcs w f d sp st (ps ++ rs)) {en s m : Int} (p : Pc w f d st' en s m) (he : en ≤ sp) : ∀ rs, Pcs w f d sp en rs → Pcs w f d sp st ((ps ++ [(st', en, s, m)]) ++ rs) := fun rs hr => by
  rw [List.append_assoc]
  exact h _ (.cons p he hr)
theorem max0m (e : Int) : (if (0 : Int) > -e then 0 else -e).toNat = (-e).toNat := by
  split <;> omega
def pcD (p : Int × Int × Int × Int) : Da := .tuple [.int p.1, .int p.2.1, .int p.2.2.1, .int p.2.2.2]
/-! ### a comprehension whose items answer by a relation -/
def Rel2 (R : Da → Da → Prop) : List Da → List Da → Prop
  | [], [] => True
  | x :: xs, y :: ys => R x y ∧ Rel2 R xs ys
  | _, _ => False
theorem lc_rel {sl : List (Option Sv)} {t : DG} {te : DE} (Rl : Da → Da → Prop) {Q : List Da → Option Nat → Prop} {fu : Option Nat} : ∀ {ds acc : List Da},
    (∀ x ∈ ds, ∀ (R : Rv → Gs → Prop) (N : Gs → Prop), (∀ (y : Da) (g3 : Gs), Rl x y → g3.fu = fu → R (.val y) g3) → t (.val x) ⟨sl, fu, false⟩ fun g1 => (true = true → te g1 R) ∧ (true = false → N g1)) → acc.length + ds.length ≤ 1000000 → (∀ ys, Rel2 Rl ds ys → Q (acc ++ ys) fu) → lcD sl t dYes te ds acc fu Q
  | [], acc, _, _, h => by have := h [] trivial; rwa [List.append_nil] at this
  | x :: xs, acc, hs, hl, h => by
    have ih : ∀ y, Rl x y → lcD sl t dYes te xs (acc ++ [y]) fu Q := fun y hy => lc_rel Rl (fun y hy => hs y (List.mem_cons_of_mem _ hy)) (by rw [List.length_cons] at hl; rw [List.length_append, List.length_cons, List.length_nil]; omega) (fun ys hys => by rw [List.append_assoc]; exact h (y :: ys) ⟨hy, hys⟩)
    exact hs x List.mem_cons_self (fun r g3 => match r with
      | .val d => acc.length < 1000000 ∧ lcD sl t dYes te xs (acc ++ [d]) (fuN fu g3.fu) Q
      | _ => False) (fun g2 => lcD sl t dYes te xs acc (fuN fu g2.fu) Q) (fun y g3 hy e => ⟨by rw [List.length_cons] at hl; omega, by rw [e, fuN_self]; exact ih y hy⟩)
/-! ### the least of some answers -/
theorem filt_opt : ∀ hs : List (Option Int), (hs.map optD).filter (fun d => !isNon d) = (hs.filterMap id).map PyData.int
  | [] => rfl
  | none :: hs => by
    rw [List.map_cons, List.filter_cons_of_neg (by decide), filt_opt hs]
    rfl
  | some x :: hs => by
    rw [List.map_cons, List.filter_cons_of_pos (by simp [optD, isNon]), filt_opt hs]
    rfl
theorem rel_hits {s m st en : Int} : ∀ {ivs : List (Int × Int)} {ys : List Da}, Rel2 (fun x y => ∃ (p : Int × Int) (r : Option Int), x = nm p ∧ FH s m p.1 p.2 st en r ∧ y = optD r) (ivs.map nm) ys →
    ∃ hs : List (Option Int), ys = hs.map optD ∧ (∀ x, some x ∈ hs → ∃ p ∈ ivs, FH s m p.1 p.2 st en (some x)) ∧ ∀ p ∈ ivs, ∃ r ∈ hs, FH s m p.1 p.2 st en r
  | [], [], _ => ⟨[], rfl, fun x h => absurd h (by simp), fun p h => absurd h (by simp)⟩
  | [], _ :: _, h => h.elim
  | _ :: _, [], h => h.elim
  | p :: ivs, y :: ys, h => by
    obtain ⟨⟨p', r, e, hr, rfl⟩, h2⟩ := h
    obtain ⟨hs, rfl, h3, h4⟩ := rel_hits h2
    have ep : p = p' := by
      simp only [nm, num, PyData.tuple.injEq, List.cons.injEq, PyData.int.injEq, and_true] at e
      exact Prod.ext e.1 e.2
    subst ep
    refine ⟨r :: hs, rfl, fun x hx => ?_, fun q hq => ?_⟩
    · rcases List.mem_cons.mp hx with e | hx
      · subst e
        exact ⟨p, List.mem_cons_self, hr⟩
      · obtain ⟨q, hq, hf⟩ := h3 x hx
        exact ⟨q, List.mem_cons_of_mem _ hq, hf⟩
    · rcases List.mem_cons.mp hq with rfl | hq
      · exact ⟨r, List.mem_cons_self, hr⟩
      · obtain ⟨r', hr', hf⟩ := h4 q hq
        exact ⟨r', List.mem_cons_of_mem _ hr', hf⟩
/-- the first of a piece, out of the first hits of its intervals -/
theorem fx_none {w f d st en s m : Int} {T U : Bool → Th} {oe oo : Option (Int × Int)} (h : Pc w f d st en s m) (hf : 0 < f) (hd : 0 < d) (hw : 1 ≤ w) (s0 : 0 < st) (io : IvOk w T U m oe oo) {hs : List (Option Int)}
    (h2 : ∀ p ∈ ivL oe oo m, ∃ r ∈ hs, FH s (2 * m) p.1 p.2 st en r) (e : hs.filterMap id = []) : FX w T U f d st en none := by
  intro y y0 y1 hy
  obtain ⟨iv, hv, hh⟩ := (iv_hit h hf hd hw (by omega) y0 y1 io).mp hy
  obtain ⟨r, hr, fr⟩ := h2 iv hv
  cases r with
  | none => exact fr y y0 y1 hh
  | some x =>
    have : x ∈ hs.filterMap id := List.mem_filterMap.mpr ⟨some x, hr, rfl⟩
    rw [e] at this
    exact absurd this (by simp)
theorem fx_some {w f d st en s m x : Int} {T U : Bool → Th} {oe oo : Option (Int × Int)} (h : Pc w f d st en s m) (hf : 0 < f) (hd : 0 < d) (hw : 1 ≤ w) (s0 : 0 < st) (io : IvOk w T U m oe oo) {hs : List (Option Int)}
    (h1 : ∀ x, some x ∈ hs → ∃ p ∈ ivL oe oo m, FH s (2 * m) p.1 p.2 st en (some x)) (h2 : ∀ p ∈ ivL oe oo m, ∃ r ∈ hs, FH s (2 * m) p.1 p.2 st en r) (hx : x ∈ hs.filterMap id) (hm : ∀ y ∈ hs.filterMap id, x ≤ y) : FX w T U f d st en (some x) := by
  have mem : ∀ y, y ∈ hs.filterMap id ↔ some y ∈ hs := fun y => by
    rw [List.mem_filterMap]
    constructor
    · rintro ⟨r, hr, e⟩
      have : r = some y := e
      rw [← this]
      exact hr
    · exact fun q => ⟨_, q, rfl⟩
  obtain ⟨p, hp, f1, f2, f3, f4⟩ := h1 x ((mem x).mp hx)
  refine ⟨f1, f2, (iv_hit h hf hd hw (by omega) f1 f2 io).mpr ⟨p, hp, f3⟩, fun y y0 y1 hy => ?_⟩
  obtain ⟨iv, hv, hh⟩ := (iv_hit h hf hd hw (by omega) y0 (by omega) io).mp hy
  obtain ⟨r, hr, fr⟩ := h2 iv hv
  cases r with
  | none => exact fr y y0 (by omega) hh
  | some z =>
    have := hm z ((mem z).mpr hr)
    exact fr.2.2.2 y y0 (by omega) hh
end Z

namespace Z
open L2 PySem PySem.Spec PyProof.Rows
/-! ### searches through a range -/
def pD (p : Int → Bool) : Da → Bool
  | .int x => p x
  | _ => false
/-- the first of a range -/
def Fst (P : Int → Prop) (st sp : Int) : Option Int → Prop
  | some x => st ≤ x ∧ x < sp ∧ P x ∧ ∀ y, st ≤ y → y < x → ¬P y
  | none => ∀ y, st ≤ y → y < sp → ¬P y
theorem FX_Fst {w f d st sp : Int} {T U : Bool → Th} {r : Option Int} : FX w T U f d st sp r ↔ Fst (DfX w T U f d) st sp r := by cases r <;> exact Iff.rfl
def cntP (p : Int → Bool) (st : Int) : Nat → Int
  | 0 => 0
  | n + 1 => cntP p st n + (if p (st + n) = true then 1 else 0)
theorem cntX_P {w f d st : Int} {T U : Bool → Th} {p : Int → Bool} : ∀ n : Nat, (∀ x, st ≤ x → x < st + n → (p x = true ↔ DfX w T U f d x)) → cntX w T U f d st n = cntP p st n
  | 0, _ => rfl
  | n + 1, h => by
    have ih := cntX_P (w := w) (f := f) (d := d) (T := T) (U := U) n fun x h1 h2 => h x h1 (by omega)
    have q := h (st + n) (by omega) (by omega)
    rw [cntX, cntP, ih]
    by_cases z : p (st + n) = true
    · rw [if_pos z, if_pos (q.mp z)]
    · rw [if_neg z, if_neg (fun y => z (q.mpr y))]
theorem cntP_len (p : Int → Bool) (st : Int) : ∀ n : Nat, (((rangeD st n).filter (pD p)).length : Int) = cntP p st n
  | 0 => rfl
  | n + 1 => by
    have ih := cntP_len p st n
    rw [rangeD_succ, List.filter_append, List.length_append, cntP, ← ih]
    by_cases h : p (st + n) = true
    · rw [if_pos h, List.filter_cons_of_pos (show pD p (.int (st + n)) = true from h)]
      simp
    · rw [if_neg h, List.filter_cons_of_neg (show ¬pD p (.int (st + n)) = true from h)]
      simp
theorem searchP (p : Int → Bool) (st : Int) : ∀ n : Nat, ((rangeD st n).filter (pD p) = [] ∧ ∀ y, st ≤ y → y < st + n → ¬p y = true) ∨
    ∃ z r, (rangeD st n).filter (pD p) = .int z :: r ∧ st ≤ z ∧ z < st + n ∧ p z = true ∧ ∀ y, st ≤ y → y < z → ¬p y = true
  | 0 => .inl ⟨rfl, fun y h1 h2 => by omega⟩
  | n + 1 => by
    rw [rangeD_succ, List.filter_append]
    rcases searchP p st n with ⟨e, h⟩ | ⟨z, r, e, h1, h2, h3, h4⟩
    · rw [e, List.nil_append]
      by_cases hc : p (st + n) = true
      · refine .inr ⟨st + n, [], ?_, by omega, by omega, hc, fun y y0 y1 => h y y0 y1⟩
        rw [List.filter_cons_of_pos (show pD p (.int (st + n)) = true from hc)]
        rfl
      · refine .inl ⟨?_, fun y y0 y1 => ?_⟩
        · rw [List.filter_cons_of_neg (show ¬pD p (.int (st + n)) = true from hc)]
          rfl
        · by_cases hy : y = st + n
          · subst hy; exact hc
          · exact h y y0 (by omega)
    · exact .inr ⟨z, r ++ _, by rw [e]; rfl, h1, by omega, h3, h4⟩
theorem fst_search {P : Int → Prop} {p : Int → Bool} {st sp : Int} {r : Option Int} (hp : ∀ x, st ≤ x → x < sp → (p x = true ↔ P x)) (h : Fst P st sp r) : optD r = headD ((rangeD st (sp - st).toNat).filter (pD p)) := by
  rcases searchP p st (sp - st).toNat with ⟨e, hn⟩ | ⟨z, q, e, h1, h2, h3, h4⟩
  · rw [e]
    cases r with
    | none => rfl
    | some x =>
      have := h.1
      have := h.2.1
      exact absurd ((hp x h.1 h.2.1).mpr h.2.2.1) (hn x h.1 (by omega))
  · rw [e]
    cases r with
    | none => exact absurd ((hp z h1 (by omega)).mp h3) (h z h1 (by omega))
    | some x =>
      have a : ¬z < x := fun c => h.2.2.2 z h1 c ((hp z h1 (by omega)).mp h3)
      have b : ¬x < z := fun c => h4 x h.1 c ((hp x h.1 h.2.1).mpr h.2.2.1)
      show PyData.int x = .int z
      rw [show x = z by omega]
theorem fst_one {P : Int → Prop} {st sp : Int} {r r' : Option Int} (h : Fst P st sp r) (h' : Fst P st sp r') : r = r' := by
  cases r with
  | none =>
    cases r' with
    | none => rfl
    | some y => exact absurd h'.2.2.1 (h y h'.1 h'.2.1)
  | some x =>
    cases r' with
    | none => exact absurd h.2.2.1 (h' x h.1 h.2.1)
    | some y =>
      have a : ¬y < x := fun c => h.2.2.2 y h'.1 c h'.2.2.1
      have b : ¬x < y := fun c => h'.2.2.2 x h.1 c h.2.2.1
      rw [show x = y by omega]
theorem low_one {x : Int} (hx : 0 < x) : low x 1 = (x, 1) := low_self (by simp)
theorem dif_symm {T U : Bool → Th} {b : Bool} {x y : Int} : Dif T U b x y ↔ Dif U T b x y := by
  unfold Dif
  exact ⟨fun h q => h q.symm, fun h q => h q.symm⟩
theorem dfx_symm {w f d x : Int} {T U : Bool → Th} : DfX w T U f d x ↔ DfX w U T f d x := dif_symm
theorem cntX_symm {w f d st : Int} {T U : Bool → Th} : ∀ n : Nat, cntX w T U f d st n = cntX w U T f d st n
  | 0 => rfl
  | n + 1 => by
    rw [cntX, cntX, cntX_symm n]
    by_cases h : DfX w T U f d (st + n)
    · rw [if_pos h, if_pos (dfx_symm.mp h)]
    · rw [if_neg h, if_neg (fun z => h (dfx_symm.mpr z))]
theorem cntX_rng {w f d st : Int} {T U : Bool → Th} : ∀ n : Nat, 0 ≤ cntX w T U f d st n ∧ cntX w T U f d st n ≤ n
  | 0 => ⟨Int.le_refl _, Int.le_refl _⟩
  | n + 1 => by
    have := cntX_rng (w := w) (f := f) (d := d) (st := st) (T := T) (U := U) n
    rw [cntX]
    split <;> omega
theorem nu_int {x : Int} {a : Nat} (hx : 0 < x) (bx : Bn a x) (ha : 1 ≤ a) : NuB a x 1 := NuB.of hx (by decide) (by simp) bx ((Bn.pow2 (n := 0) (m := 1) (by decide)).mono ha)
/-- the shown pair of a first and a count -/
theorem fc_ok {r : Option Int} {c : Int} (hr : ∀ x, r = some x → Bn 1000 x) (hc : Bn 1000 c) : ShB 1 4000 (.list [optD r, .int c]) := by
  refine (ShB.lst (ShB.two ?_ (ShB.int (hc.mono (by decide)))) (n := 2) (Nat.le_refl 2)).mono (by decide) (by decide)
  cases r with
  | none => exact ShB.none
  | some x => exact ShB.int ((hr x rfl).mono (by decide))
/-! ### shapes of arguments -/
/-- a range that is not refused -/
structure RgOk (f m lo hi st sp : Int) : Prop where
  f0 : 0 ≤ f
  m0 : 0 < m
  l0 : 0 ≤ lo
  lh : lo ≤ hi
  hm : hi < m
  s0 : 0 ≤ st
  t0 : 0 ≤ sp
abbrev six (f m lo hi st sp : Int) : List Rv := [.val (.int f), .val (.int m), .val (.int lo), .val (.int hi), .val (.int st), .val (.int sp)]
/-- arguments of a search among ints -/
structure LiOk (w : Int) (T U : Bool → Th) (f d st sp : Int) : Prop where
  w1 : 1 ≤ w
  w2 : w ≤ 100
  T : ThB 101 T
  U : ThB 101 U
  f0 : 0 < f
  bf : Bn 300 f
  d0 : 0 < d
  bd : Bn 300 d
  s0 : 0 < st
  bs : Bn 300 st
  bt : Bn 300 sp
abbrev fiG (w : Int) (T U : Bool → Th) (f d st sp : Int) (fu : Option Nat) (r : List (Option Sv)) : Gs := ⟨[some (.val (znD w T U)), some (.val (.int w)), some (.val (.int f)), some (.val (.int d)), some (.val (.int st)), some (.val (.int sp))] ++ r, fu, fu.isNone⟩
/-- arguments of a search among operands -/
structure LoOk (w : Int) (T U : Bool → Th) (f d p : Int) : Prop where
  w1 : 1 ≤ w
  w2 : w ≤ 100
  T : ThB 101 T
  U : ThB 101 U
  f0 : 0 < f
  bf : Bn 300 f
  d0 : 0 < d
  bd : Bn 300 d
  p1 : 1 ≤ p
  p2 : p ≤ 100
theorem LoOk.li {w f d p : Int} {T U : Bool → Th} (h : LoOk w T U f d p) : LiOk w T U f d (2 ^ (p - 1).toNat) (2 ^ p.toNat) :=
  ⟨h.w1, h.w2, h.T, h.U, h.f0, h.bf, h.d0, h.bd, pow2_pos _, Bn.pow2 (by have := h.p2; omega), Bn.pow2 (by have := h.p2; omega)⟩
/-- two chains that may be compared -/
structure Two (c c' : List (Int × Ru)) : Prop where
  a : Chn1 c
  b : Chn1 c'
  w : (chT c).1 = (chT c').1
theorem Two.lo {c c' : List (Int × Ru)} {f d p : Int} (h : Two c c') (f0 : 0 < f) (bf : Bn 300 f) (d0 : 0 < d) (bd : Bn 300 d) (p1 : 1 ≤ p) (p2 : p ≤ 100) : LoOk (chT c).1 (chT c).2 (chT c').2 f d p := by
  obtain ⟨hT, w1, w2⟩ := chT_B h.a.ne h.a.w
  obtain ⟨hU, _, _⟩ := chT_B h.b.ne h.b.w
  exact ⟨w1, w2, hT, hU, f0, bf, d0, bd, p1, p2⟩
abbrev FO (c c' : List (Int × Ru)) (f d p : Int) (r : Option Int) : Prop := FX (chT c).1 (chT c).2 (chT c').2 f d (2 ^ (p - 1).toNat) (2 ^ p.toNat) r
abbrev cO (c c' : List (Int × Ru)) (f d p : Int) : Int := cntX (chT c).1 (chT c).2 (chT c').2 f d (2 ^ (p - 1).toNat) (2 ^ p.toNat - 2 ^ (p - 1).toNat : Int).toNat
theorem bn1 : Bn 300 (1 : Int) := Bn.small (by decide) (by decide) (by decide)
theorem all_same {zs : List Da} (h : ∀ z ∈ zs, z = PyData.bool true) : zs = zs.map fun _ => PyData.bool true := by
  induction zs with
  | nil => rfl
  | cons z zs ih => rw [List.map_cons, ← ih fun y hy => h y (List.mem_cons_of_mem _ hy), h z List.mem_cons_self]
end Z

namespace Z
open L2 PySem PySem.Spec PyProof.Rows
open Evl (Ex ex_l ex_t ex_rd fresh_back)
/-! ### list(range(a, b)) -/
def dListR2 (ta tb : DE) : DE := fun g Q => ta g fun x g1 => tb g1 fun y g2 => match x, y with
  | .val (.int i), .val (.int j) => (0 ≤ i ∧ i ≤ 16777216 ∧ 0 ≤ j ∧ j ≤ 16777216) ∧ Q (.val (.list (rangeD i (j - i).toNat))) g2
  | _, _ => False
section
variable {X : Cx} {a b : Expr} {ta tb : DE} {p p2 pos pos2 : Pos}
theorem e_listR2 (hc : X.calm = true) (hg : Gl X "list") (hm : X.mg "list" = none) (hg2 : Gl X "range") (hm2 : X.mg "range" = none) (ha : PE X a (up X.K ta)) (hb : PE X b (up X.K tb)) (n1 : starEach [a, b] X.env = (false, eval a X.env) :: starEach [b] X.env := by rfl) (n2 : starEach [b] X.env = (false, eval b X.env) :: starEach [] X.env := by rfl)
    (n3 : (backTo pos2 (starEach [b] X.env)).any (·.1) = false := by rfl)
    (n4 : starEach [.Call (.Name "range" p2) [a, b] [] pos2] X.env = (false, eval (.Call (.Name "range" p2) [a, b] [] pos2) X.env) :: starEach [] X.env := by rfl) : PE X (.Call (.Name "list" p) [.Call (.Name "range" p2) [a, b] [] pos2] [] pos) (up X.K (dListR2 ta tb)) :=
  pe_to (pe_listRg hc hg hm (prg_2 hg2 hm2 ha hb n1 n2 n3) n4) fun σ H Q q => by
  obtain ⟨c, g, tv, tr, F, ad, post, s, t, k⟩ := q
  refine ⟨c, g, tv, tr, F, ad, _, s, t, fun r g1 v H1 F1 a1 t1 s1 => ?_⟩
  refine ⟨c, g1, _, _, F1, a1, _, s1, t1, fun r2 g2 v2 H2 F2 a2 t2 s2 => ?_⟩
  split at t2
  · rename_i i j
    have hr : Rp X.K F2 v (.int i) := s2.pop1.top
    have hr2 : Rp X.K F2 v2 (.int j) := s2.top
    cases hr
    cases hr2
    obtain ⟨⟨i0, i1, j0, j1⟩, t2⟩ := t2
    refine ⟨i, j, rfl, rfl, L2.RgOk.of_le i0 j1 i1 j0, fun q hq => ?_⟩
    have gr := Gr.new (o := .lst (rgV i j)) s2.eh hq
    refine k _ g2 _ _ _ a2 t2 ((s2.pop1.pop1.grow gr).push (r := .val (.list (rangeD i (j - i).toNat))) (.lst upd_same ?_))
    unfold rgV rangeD
    exact rg_rp i _
  · exact t2.elim
end
/-! ### < of data that are alike -/
def fLtD : BinF := fun d e post => PySem.W.alike d e = true ∧ d ≠ .none ∧ SeqAt.shaped d = true ∧ SeqAt.shaped e = true ∧ post (.bool (PySem.W.dataLt d e))
def rLtX (K : Fg) : R2 := fun x y H Q => ∃ d e, Dp K H x d ∧ Dp K H y e ∧ PySem.W.alike d e = true ∧ d ≠ .none ∧ SeqAt.shaped d = true ∧ Q (.bl (PySem.W.dataLt d e)) H
section
variable {X : Cx} {a b : Expr} {ta tb : DE} {pos : Pos}
theorem op_ltX (hu : X.A.units + 65 < cLine) : OpR X (compareOp .Lt) (rLtX X.K) := by
  intro pins s σ H x y v u Q I rx ry h
  obtain ⟨d, e, hd, he, ha, hn, sd, q⟩ := h
  obtain ⟨as, r1⟩ := Dp.reads I d x v hd rx
  obtain ⟨bs, r2⟩ := Dp.reads I e y u he ry
  have dp : d.depth ≤ 64 := by
    unfold SeqAt.shaped at sd
    rw [Bool.and_eq_true] at sd
    exact of_decide_eq_true sd.2
  exact PySem.W.lt_data r1 r2 ha hn (by omega) ⟨.bl _, H, I, rfl, q⟩
theorem ok_ltX {K : Fg} : BinOk K (rLtX K) fLtD := fun F H x y d e post Q hx r1 r2 hf k => by
  obtain ⟨h1, h2, h3, h4, h5⟩ := hf
  exact ⟨d, e, r1.dp hx d x (shaped_lay h3), r2.dp hx e y (shaped_lay h4), h1, h2, h3, k _ _ H F h5 (Gr.refl hx) (.bl _)⟩
theorem e_ltX {k : Nat} (hr : Room k X.A) (ha : PE X a (up X.K ta)) (hb : PE X b (up X.K tb)) : PE X (.Compare a [.Lt] [b] pos) (up X.K (dBin fLtD ta tb)) := e_cmp (op_ltX (Room.units1 hr)) ok_ltX ha hb (nomark _)
theorem t_ltX {k : Nat} (hr : Room k X.A) (ha : PE X a (up X.K ta)) (hb : PE X b (up X.K tb)) : PT X (.Compare a [.Lt] [b] pos) (upT X.K (dTest (dBin fLtD ta tb))) := t_cmp (op_ltX (Room.units1 hr)) ok_ltX ha hb (nomark _)
end
theorem lt_num (a b c d : Int) : PySem.W.dataLt (num a b) (num c d) = decide (a < c ∨ (a = c ∧ b < d)) := PySem.W.dataLt_ii a b c d
/-! ### searches through pairs -/
def optP : Option (Int × Int) → Da
  | some p => nm p
  | none => .none
/-- the first pair -/
def Fst2 (P : Int → Int → Prop) (a0 a1 b0 b1 : Int) : Option (Int × Int) → Prop
  | some p => a0 ≤ p.1 ∧ p.1 < a1 ∧ b0 ≤ p.2 ∧ p.2 < b1 ∧ P p.1 p.2 ∧ ∀ a b, a0 ≤ a → a < a1 → b0 ≤ b → b < b1 → P a b → p.1 < a ∨ (p.1 = a ∧ p.2 ≤ b)
  | none => ∀ a b, a0 ≤ a → a < a1 → b0 ≤ b → b < b1 → ¬P a b
theorem fst2_one {P : Int → Int → Prop} {a0 a1 b0 b1 : Int} {r r' : Option (Int × Int)} (h : Fst2 P a0 a1 b0 b1 r) (h' : Fst2 P a0 a1 b0 b1 r') : r = r' := by
  cases r with
  | none =>
    cases r' with
    | none => rfl
    | some q => exact absurd h'.2.2.2.2.1 (h q.1 q.2 h'.1 h'.2.1 h'.2.2.1 h'.2.2.2.1)
  | some p =>
    cases r' with
    | none => exact absurd h.2.2.2.2.1 (h' p.1 p.2 h.1 h.2.1 h.2.2.1 h.2.2.2.1)
    | some q =>
      have x := h.2.2.2.2.2 q.1 q.2 h'.1 h'.2.1 h'.2.2.1 h'.2.2.2.1 h'.2.2.2.2.1
      have y := h'.2.2.2.2.2 p.1 p.2 h.1 h.2.1 h.2.2.1 h.2.2.2.1 h.2.2.2.2.1
      rw [show p = q from Prod.ext (by omega) (by omega)]
/-- how many pairs -/
def cnt2 (p : Int → Int → Bool) (b0 : Int) (nb : Nat) (a0 : Int) : Nat → Int
  | 0 => 0
  | n + 1 => cnt2 p b0 nb a0 n + cntP (p (a0 + n)) b0 nb
/-- one row of hits: the pairs with this a -/
def rowD (p : Int → Int → Bool) (b0 : Int) (nb : Nat) (a : Int) : List Da := ((rangeD b0 nb).filter (pD (p a))).map fun d => .tuple [.int a, d]
def hitsD (p : Int → Int → Bool) (b0 : Int) (nb : Nat) (a0 : Int) : Nat → List Da
  | 0 => []
  | n + 1 => hitsD p b0 nb a0 n ++ rowD p b0 nb (a0 + n)
theorem row_len (p : Int → Int → Bool) (b0 : Int) (nb : Nat) (a : Int) : ((rowD p b0 nb a).length : Int) = cntP (p a) b0 nb := by
  unfold rowD
  rw [List.length_map]
  exact cntP_len _ _ _
theorem hits_len (p : Int → Int → Bool) (b0 : Int) (nb : Nat) (a0 : Int) : ∀ n : Nat, ((hitsD p b0 nb a0 n).length : Int) = cnt2 p b0 nb a0 n
  | 0 => rfl
  | n + 1 => by
    have := hits_len p b0 nb a0 n
    have := row_len p b0 nb (a0 + n)
    rw [hitsD, List.length_append, cnt2]
    omega
theorem row_is (p : Int → Int → Bool) (b0 : Int) (nb : Nat) (a : Int) : (rowD p b0 nb a = [] ∧ ∀ b, b0 ≤ b → b < b0 + nb → ¬p a b = true) ∨ ∃ z r, rowD p b0 nb a = num a z :: r ∧ b0 ≤ z ∧ z < b0 + nb ∧ p a z = true ∧ ∀ b, b0 ≤ b → b < z → ¬p a b = true := by
  unfold rowD
  rcases searchP (p a) b0 nb with ⟨e, h⟩ | ⟨z, r, e, h1, h2, h3, h4⟩
  · exact .inl ⟨by rw [e]; rfl, h⟩
  · exact .inr ⟨z, r.map fun d => .tuple [.int a, d], by rw [e]; rfl, h1, h2, h3, h4⟩
theorem hits_is (p : Int → Int → Bool) (b0 : Int) (nb : Nat) (a0 : Int) : ∀ n : Nat, (hitsD p b0 nb a0 n = [] ∧ Fst2 (fun a b => p a b = true) a0 (a0 + n) b0 (b0 + nb) none) ∨ ∃ q r, hitsD p b0 nb a0 n = nm q :: r ∧ Fst2 (fun a b => p a b = true) a0 (a0 + n) b0 (b0 + nb) (some q)
  | 0 => .inl ⟨rfl, fun a b h1 h2 => by omega⟩
  | n + 1 => by
    rw [hitsD]
    rcases hits_is p b0 nb a0 n with ⟨e, h⟩ | ⟨q, r, e, h1, h2, h3, h4, h5, h6⟩
    · rw [e, List.nil_append]
      rcases row_is p b0 nb (a0 + n) with ⟨e2, h'⟩ | ⟨z, r, e2, z1, z2, z3, z4⟩
      · refine .inl ⟨e2, fun a b x1 x2 x3 x4 => ?_⟩
        by_cases ha : a = a0 + n
        · subst ha; exact h' b x3 x4
        · exact h a b x1 (by omega) x3 x4
      · refine .inr ⟨(a0 + n, z), r, e2, by show a0 ≤ a0 + n; omega, by show a0 + n < _; omega, z1, z2, z3, fun a b x1 x2 x3 x4 x5 => ?_⟩
        show a0 + n < a ∨ (a0 + n = a ∧ z ≤ b)
        by_cases ha : a = a0 + n
        · subst ha
          refine .inr ⟨rfl, ?_⟩
          rcases Int.lt_or_le b z with q | q
          · exact absurd x5 (z4 b x3 q)
          · exact q
        · exact absurd x5 (h a b x1 (by omega) x3 x4)
    · refine .inr ⟨q, r ++ rowD p b0 nb (a0 + n), by rw [e]; rfl, h1, by omega, h3, h4, h5, fun a b x1 x2 x3 x4 x5 => ?_⟩
      by_cases ha : a = a0 + n
      · subst ha
        exact .inl (by omega)
      · exact h6 a b x1 (by omega) x3 x4 x5
theorem fst2_search {P : Int → Int → Prop} {p : Int → Int → Bool} {a0 a1 b0 b1 : Int} {r : Option (Int × Int)} (ha : a0 ≤ a1) (hb : b0 ≤ b1) (hp : ∀ a b, a0 ≤ a → a < a1 → b0 ≤ b → b < b1 → (p a b = true ↔ P a b)) (h : Fst2 P a0 a1 b0 b1 r) : optP r = headD (hitsD p b0 (b1 - b0).toNat a0 (a1 - a0).toNat) := by
  have ea : a0 + ((a1 - a0).toNat : Int) = a1 := by omega
  have eb : b0 + ((b1 - b0).toNat : Int) = b1 := by omega
  have h' : Fst2 (fun a b => p a b = true) a0 a1 b0 b1 r := by
    cases r with
    | none => exact fun a b x1 x2 x3 x4 x5 => h a b x1 x2 x3 x4 ((hp a b x1 x2 x3 x4).mp x5)
    | some q =>
      obtain ⟨h1, h2, h3, h4, h5, h6⟩ := h
      exact ⟨h1, h2, h3, h4, (hp _ _ h1 h2 h3 h4).mpr h5, fun a b x1 x2 x3 x4 x5 => h6 a b x1 x2 x3 x4 ((hp a b x1 x2 x3 x4).mp x5)⟩
  rcases hits_is p b0 (b1 - b0).toNat a0 (a1 - a0).toNat with ⟨e, hn⟩ | ⟨q, t, e, hn⟩
  · rw [e]
    rw [ea, eb] at hn
    rw [fst2_one h' hn]
    rfl
  · rw [e]
    rw [ea, eb] at hn
    rw [fst2_one h' hn]
    rfl
/-- the same count, the other way round -/
theorem cntP_rng (p : Int → Bool) (st : Int) : ∀ n : Nat, 0 ≤ cntP p st n ∧ cntP p st n ≤ n
  | 0 => ⟨Int.le_refl _, Int.le_refl _⟩
  | n + 1 => by
    have := cntP_rng p st n
    rw [cntP]
    split <;> omega
theorem cnt2_rng (p : Int → Int → Bool) (b0 : Int) (nb : Nat) (a0 : Int) : ∀ n : Nat, 0 ≤ cnt2 p b0 nb a0 n ∧ cnt2 p b0 nb a0 n ≤ (n * nb : Nat)
  | 0 => ⟨Int.le_refl _, by simp [cnt2]⟩
  | n + 1 => by
    have h1 := cnt2_rng p b0 nb a0 n
    have h2 := cntP_rng (p (a0 + n)) b0 nb
    rw [cnt2, Nat.succ_mul]
    omega
theorem cnt2_col (p : Int → Int → Bool) (b0 : Int) (nb : Nat) (a0 : Int) : ∀ n : Nat, cnt2 p b0 (nb + 1) a0 n = cnt2 p b0 nb a0 n + cntP (fun a => p a (b0 + nb)) a0 n
  | 0 => rfl
  | n + 1 => by
    rw [cnt2, cnt2, cnt2_col p b0 nb a0 n, cntP, cntP]
    omega
theorem cnt2_swap (p : Int → Int → Bool) (b0 a0 : Int) (na : Nat) : ∀ nb : Nat, cnt2 p b0 nb a0 na = cnt2 (fun b a => p a b) a0 na b0 nb
  | 0 => by
    have : ∀ n : Nat, cnt2 p b0 0 a0 n = 0 := fun n => by
      induction n with
      | zero => rfl
      | succ n ih => rw [cnt2, ih]; rfl
    rw [this]
    rfl
  | nb + 1 => by
    rw [cnt2_col, cnt2_swap p b0 a0 na nb, cnt2]
theorem cntP_congr {p q : Int → Bool} {st : Int} : ∀ n : Nat, (∀ x, st ≤ x → x < st + n → p x = q x) → cntP p st n = cntP q st n
  | 0, _ => rfl
  | n + 1, h => by rw [cntP, cntP, cntP_congr n fun x h1 h2 => h x h1 (by omega), h (st + n) (by omega) (by omega)]
theorem cnt2_congr {p q : Int → Int → Bool} {b0 a0 : Int} {nb : Nat} : ∀ n : Nat, (∀ a b, a0 ≤ a → a < a0 + n → b0 ≤ b → b < b0 + nb → p a b = q a b) → cnt2 p b0 nb a0 n = cnt2 q b0 nb a0 n
  | 0, _ => rfl
  | n + 1, h => by rw [cnt2, cnt2, cnt2_congr n fun a b h1 h2 => h a b h1 (by omega), cntP_congr nb fun b h1 h2 => h (a0 + n) b (by omega) (by omega) h1 h2]
theorem cntX_is {w f d st : Int} {T U : Bool → Th} (n : Nat) : cntX w T U f d st n = cntP (fun x => decide (DfX w T U f d x)) st n := cntX_P n fun x _ _ => decide_eq_true_iff
theorem sum_rows (g : Int → Int) (a0 : Int) : ∀ n : Nat, (((rangeD a0 n).map fun d => match d with | .int a => g a | _ => 0).sum) = ((List.range n).map fun i => g (a0 + (i : Nat))).sum := fun n => by
  unfold rangeD
  rw [List.map_map]
  rfl
theorem cnt2_sum (p : Int → Int → Bool) (b0 : Int) (nb : Nat) (a0 : Int) : ∀ n : Nat, ((List.range n).map fun i => cntP (p (a0 + (i : Nat))) b0 nb).sum = cnt2 p b0 nb a0 n
  | 0 => rfl
  | n + 1 => by
    rw [List.range_succ, List.map_append, List.sum_append, cnt2_sum p b0 nb a0 n, cnt2]
    simp
/-- the shown pair of a first pair and a count -/
theorem fc2_ok {r : Option (Int × Int)} {c : Int} (hr : ∀ x, r = some x → Bn 1000 x.1 ∧ Bn 1000 x.2) (hc : Bn 1000 c) : ShB 2 9000 (.list [optP r, .int c]) := by
  refine (ShB.lst (ShB.two (k := 1) (z := 4000) ?_ ((ShB.int (hc.mono (by decide))).mono (by decide) (by decide))) (n := 2) (Nat.le_refl 2)).mono (by decide) (by decide)
  cases r with
  | none => exact ShB.none.mono (by decide) (by decide)
  | some x => exact ShB.num ((hr x rfl).1.mono (by decide)) ((hr x rfl).2.mono (by decide))
theorem nums_lay : ∀ ds : List Da, (∀ x ∈ ds, ∃ i j : Int, x = num i j) → PyData.canLayAll0 ds = true ∧ PyData.depthAll ds ≤ 1
  | [], _ => ⟨rfl, Nat.zero_le _⟩
  | x :: xs, h => by
    obtain ⟨i, j, rfl⟩ := h x List.mem_cons_self
    obtain ⟨h1, h2⟩ := nums_lay xs fun y hy => h y (List.mem_cons_of_mem _ hy)
    simp [PyData.canLayAll0, PyData.depthAll, PyData.canLay0, PyData.depth, h1, num]
    omega
theorem shaped_numL {ds : List Da} (h : ∀ x ∈ ds, ∃ i j : Int, x = num i j) : SeqAt.shaped (.list ds) = true := by
  obtain ⟨h1, h2⟩ := nums_lay ds h
  simp [SeqAt.shaped, PyData.canLay0, PyData.depth, h1]
  omega
theorem hits_num (p : Int → Int → Bool) (b0 : Int) (nb : Nat) (a0 : Int) : ∀ n : Nat, ∀ x ∈ hitsD p b0 nb a0 n, ∃ i j : Int, x = num i j
  | 0 => fun x hx => by simp [hitsD] at hx
  | n + 1 => fun x hx => by
    rw [hitsD] at hx
    rcases List.mem_append.mp hx with hx | hx
    · exact hits_num p b0 nb a0 n x hx
    · unfold rowD at hx
      obtain ⟨d, hd, rfl⟩ := List.mem_map.mp hx
      obtain ⟨i, rfl, _, _⟩ := rangeD_mem (List.mem_filter.mp hd).1
      exact ⟨_, _, rfl⟩
/-- chains differ at a product, at a quotient -/
def prP (c c' : List (Int × Ru)) (a b : Int) : Prop := DfX (chT c).1 (chT c).2 (chT c').2 a 1 b
def quP (c c' : List (Int × Ru)) (a b : Int) : Prop := DfX (chT c).1 (chT c).2 (chT c').2 1 b a
instance (c c' : List (Int × Ru)) (a b : Int) : Decidable (prP c c' a b) := by unfold prP; infer_instance
instance (c c' : List (Int × Ru)) (a b : Int) : Decidable (quP c c' a b) := by unfold quP; infer_instance
/-- 2 ** (p - 1), 2 ** p, and how many lie between -/
abbrev lo2 (p : Int) : Int := 2 ^ (p - 1).toNat
abbrev hi2 (p : Int) : Int := 2 ^ p.toNat
theorem op2 {p : Int} (p1 : 1 ≤ p) (p2 : p ≤ 12) : 0 < lo2 p ∧ hi2 p = 2 * lo2 p ∧ hi2 p ≤ 4096 := by
  have q1 := pow2_pos (p - 1).toNat
  have q3 : (2 : Int) ^ p.toNat ≤ 2 ^ 12 := pow_le2 (by omega)
  rw [show (2 : Int) ^ 12 = 4096 from by decide] at q3
  refine ⟨q1, ?_, q3⟩
  unfold hi2 lo2
  rw [show p.toNat = (p - 1).toNat + 1 by omega, Int.pow_succ, Int.mul_comm]
theorem bn4096 {x : Int} (h0 : 0 ≤ x) (h1 : x ≤ 16777216) : Bn 300 x := Bn.small (by omega) (by omega) (by decide)
theorem iop_mulX {X : Cx} : OpR X (inplaceOp .Mult) (rI CMulX fun i j => .int (i * j)) := opI fun _ _ _ _ _ _ _ hc q => imul_int q hc.ok
/-- one more column -/
theorem fst2_col_none {P : Int → Int → Prop} {a0 a1 b0 b1 : Int} {r : Option (Int × Int)} (h : Fst2 P a0 a1 b0 b1 r) (hn : ∀ a, a0 ≤ a → a < a1 → ¬P a b1) : Fst2 P a0 a1 b0 (b1 + 1) r := by
  cases r with
  | none =>
    intro a b h1 h2 h3 h4
    by_cases e : b = b1
    · subst e; exact hn a h1 h2
    · exact h a b h1 h2 h3 (by omega)
  | some p =>
    obtain ⟨h1, h2, h3, h4, h5, h6⟩ := h
    refine ⟨h1, h2, h3, by omega, h5, fun a b x1 x2 x3 x4 x5 => ?_⟩
    by_cases e : b = b1
    · subst e; exact absurd x5 (hn a x1 x2)
    · exact h6 a b x1 x2 x3 (by omega) x5
theorem fst2_col_some {P : Int → Int → Prop} {a0 a1 b0 b1 x : Int} {r : Option (Int × Int)} (hb : b0 ≤ b1) (h : Fst2 P a0 a1 b0 b1 r) (x0 : a0 ≤ x) (x1 : x < a1) (hx : P x b1) (hm : ∀ a, a0 ≤ a → a < x → ¬P a b1) (hl : ∀ p, r = some p → x < p.1 ∨ (x = p.1 ∧ b1 < p.2)) : Fst2 P a0 a1 b0 (b1 + 1) (some (x, b1)) := by
  refine ⟨x0, x1, hb, by show b1 < b1 + 1; omega, hx, fun a b y1 y2 y3 y4 y5 => ?_⟩
  show x < a ∨ (x = a ∧ b1 ≤ b)
  by_cases e : b = b1
  · subst e
    rcases Int.lt_or_le a x with q | q
    · exact absurd y5 (hm a y1 q)
    · omega
  · cases r with
    | none => exact absurd y5 (h a b y1 y2 y3 (by omega))
    | some p =>
      have l := hl p rfl
      have m := h.2.2.2.2.2 a b y1 y2 y3 (by omega) y5
      have hp := h.2.2.2.1
      omega
theorem fst2_col_keep {P : Int → Int → Prop} {a0 a1 b0 b1 x : Int} {p : Int × Int} (h : Fst2 P a0 a1 b0 b1 (some p)) (hm : ∀ a, a0 ≤ a → a < x → ¬P a b1) (hl : ¬(x < p.1 ∨ (x = p.1 ∧ b1 < p.2))) : Fst2 P a0 a1 b0 (b1 + 1) (some p) := by
  obtain ⟨h1, h2, h3, h4, h5, h6⟩ := h
  refine ⟨h1, h2, h3, by omega, h5, fun a b x1 x2 x3 x4 x5 => ?_⟩
  by_cases e : b = b1
  · subst e
    rcases Int.lt_or_le a x with q | q
    · exact absurd x5 (hm a x1 q)
    · omega
  · exact h6 a b x1 x2 x3 (by omega) x5
end Z

namespace Z
open L2 PySem PySem.Spec PyProof.Rows
open Evl (Ex ex_l ex_t ex_rd fresh_back)
/-! ### list + list as a new list of one's own -/
def dCatL (ta tb : DE) : DL := fun g Q => ta g fun x g1 => tb g1 fun y g2 => match x, y with
  | .val (.list xs), .val (.list ys) => xs.length + ys.length ≤ sizeLine ∧ Q (xs ++ ys) g2
  | _, _ => False
section
variable {X : Cx} {a b e : Expr} {ta tb : DE} {pos p : Pos}
theorem e_catL (ha : PE X a (up X.K ta)) (hb : PE X b (up X.K tb)) : PE X (.BinOp a .Add b pos) (upL X.K (dCatL ta tb)) := pe_to (pe_op op_cat ha hb) fun σ H Q q => by
  obtain ⟨c, g, tv, tr, F, ad, post, s, t, k⟩ := q
  refine ⟨c, g, tv, tr, F, ad, _, s, t, fun x g1 v1 H1 F1 a1 t1 s1 => ?_⟩
  refine ⟨c, g1, _, _, F1, a1, _, s1, t1, fun y g2 v2 H2 F2 a2 t2 s2 => ?_⟩
  split at t2
  · rename_i xs ys
    have r1 : Rp X.K F2 v1 (.list xs) := s2.pop1.top
    have r2 : Rp X.K F2 v2 (.list ys) := s2.top
    cases r1 with
    | lst q1 m1 =>
      cases r2 with
      | lst q2 m2 =>
        refine ⟨_, _, _, _, rfl, rfl, s2.eh _ _ q1, s2.eh _ _ q2, by rw [m1.len, m2.len]; exact t2.1, fun p hp => ?_⟩
        obtain ⟨s3, n3⟩ := s2.pop1.pop1.laid hp (m1.app m2)
        exact k _ g2 _ _ F2 a2 t2.2 s3 n3
  · exact t2.elim
end
/-! ### text * int, int(text) -/
def repS (x : Str) (n : Int) : Str := if n < 1 then Str.empty else if (n == 1 || x.length == 0) = true then x else ⟨(List.replicate n.toNat x.cps).foldl (· ++ ·) #[]⟩
def fMulS : BinF := fun d e post => match d, e with
  | .str x, .int i => 0 ≤ i ∧ i ≤ 1000 ∧ x.length ≤ 1000 ∧ (repS x i).length ≤ 1000000 ∧ post (.str (repS x i))
  | _, _ => False
def cIntS : CF := fun rs post => match rs with
  | [.val (.str x)] => (match PySem.intText? x with | some n => x.length ≤ 640 ∧ post (.int n) | none => False)
  | _ => False
section
variable {X : Cx} {a b e : Expr} {ta tb : DE} {tr : DA} {pos p : Pos}
theorem op_mulS : OpR X (binaryOp .Mult) (fun x y H Q => ∃ z i, x = .str z ∧ y = .int i ∧ 0 ≤ i ∧ i ≤ 1000 ∧ z.length ≤ 1000 ∧ (repS z i).length ≤ 1000000 ∧ Q (.str (repS z i)) H) := by
  intro pins s σ H x y v u Q I rx ry h
  obtain ⟨z, i, rfl, rfl, i0, i1, zl, rl, q⟩ := h
  obtain ⟨t, rfl⟩ := rx
  obtain ⟨t', rfl⟩ := ry
  have h1 : ∀ n : Int, 1 ≤ n → n ≤ 1000 → (9223372036854775 : Int) ≤ (2 ^ 63 - 1) / n := fun n a b => by
    rw [Int.le_ediv_iff_mul_le (by omega)]
    omega
  refine PySem.P.mul_str (by simp; omega) (fun c _ => ?_) (fun _ _ => ?_) ?_
  · have := h1 i (by omega) i1
    omega
  · have : z.length * i.toNat ≤ 1000 * 1000 := Nat.mul_le_mul zl (by omega)
    unfold Builtin.Str.tooLong
    rw [decide_eq_false]
    rw [sizeLine_eq]
    omega
  · unfold repS at q rl
    by_cases c1 : i < 1
    · rw [if_pos c1] at q ⊢
      exact ⟨by decide, .str _, H, I.tok _, ⟨_, rfl⟩, q⟩
    · rw [if_neg c1] at q rl ⊢
      by_cases c2 : (i == 1 || z.length == 0) = true
      · rw [if_pos c2] at q ⊢
        exact ⟨.str _, H, I, ⟨_, rfl⟩, q⟩
      · rw [if_neg c2] at q rl ⊢
        exact ⟨Nat.le_trans rl (by decide), .str _, H, I.tok _, ⟨_, rfl⟩, q⟩
theorem ok_mulS {K : Fg} : BinOk K (fun x y H Q => ∃ z i, x = .str z ∧ y = .int i ∧ 0 ≤ i ∧ i ≤ 1000 ∧ z.length ≤ 1000 ∧ (repS z i).length ≤ 1000000 ∧ Q (.str (repS z i)) H) fMulS := fun F H x y d e post Q hx r1 r2 hf k => by
  unfold fMulS at hf
  split at hf
  · cases r1
    cases r2
    obtain ⟨h1, h2, h3, h4, h5⟩ := hf
    exact ⟨_, _, rfl, rfl, h1, h2, h3, h4, k _ _ H F h5 (Gr.refl hx) (.str _)⟩
  · exact hf.elim
theorem e_mulS (ha : PE X a (up X.K ta)) (hb : PE X b (up X.K tb)) : PE X (.BinOp a .Mult b pos) (up X.K (dBin fMulS ta tb)) := e_bin op_mulS ok_mulS ha hb
theorem ok_intS {K : Fg} : CallOk K (fun xs H Q => ∃ a n, xs = [V.str a] ∧ PySem.intText? a = some n ∧ a.length ≤ 640 ∧ Q (.int n) H) cIntS := fun F H a fu vs rs post Q e t hf k => by
  unfold cIntS at hf
  split at hf
  · rename_i x
    obtain ⟨v, rfl, r⟩ := t.v1
    cases r
    split at hf
    · rename_i n hn
      exact ⟨_, n, rfl, hn, hf.1, k _ _ H F hf.2 (Gr.refl e) (.int _)⟩
    · exact hf.elim
  · exact hf.elim
theorem e_tointS (hg : Gl X "int") (hm : X.mg "int" = none) (ha : PA X [e] (upA X.K tr)) (he : starEach [e] X.env = (false, eval e X.env) :: starEach [] X.env := by rfl) : PE X (.Call (.Name "int" p) [e] [] pos) (up X.K (dCB cIntS tr)) := e_callTy call_int_str ok_intS hg hm (by decide +kernel) ha (by decide) (by decide) he rfl
end
/-- 1 and zeros -/
theorem tens_all : ∀ n : Fin 41, PySem.intText? (("1" : Str) ++ repS "0" (n.val : Int)) = some (10 ^ n.val) ∧ (repS "0" (n.val : Int)).length ≤ 40 ∧ (("1" : Str) ++ repS "0" (n.val : Int)).length ≤ 41 := by decide +kernel
theorem tens_is {n : Int} (h0 : 0 ≤ n) (h1 : n ≤ 40) : PySem.intText? (("1" : Str) ++ repS "0" n) = some (10 ^ n.toNat) ∧ (repS "0" n).length ≤ 40 ∧ (("1" : Str) ++ repS "0" n).length ≤ 41 := by
  have := tens_all ⟨n.toNat, by omega⟩
  have e : ((⟨n.toNat, by omega⟩ : Fin 41).val : Int) = n := by show ((n.toNat : Nat) : Int) = n; omega
  rw [e] at this
  exact this
/-! ### powers of ten -/
def tenF (e : Int) : Int := if 0 ≤ e then 10 ^ e.toNat else 1
def tenD (e : Int) : Int := if 0 ≤ e then 1 else 10 ^ (-e).toNat
theorem ten_pos (n : Nat) : (0 : Int) < 10 ^ n := Int.pow_pos (by decide)
theorem ten_bn {n : Nat} (h : n ≤ 60) : Bn 300 ((10 : Int) ^ n) := by
  have h1 : (10 : Int) ^ n ≤ 16 ^ n := by
    have : (10 : Nat) ^ n ≤ 16 ^ n := Nat.pow_le_pow_left (by decide) n
    exact_mod_cast this
  have h2 : (16 : Int) ^ n = 2 ^ (4 * n) := by
    rw [Int.pow_mul]
    rfl
  rw [h2] at h1
  exact (Bn.pow2 (n := 4 * n) (m := 300) (by omega)).le (Int.le_of_lt (ten_pos n)) h1
theorem ten_ok {e : Int} (h1 : -30 ≤ e) (h2 : e ≤ 30) : 0 < tenF e ∧ Bn 300 (tenF e) ∧ 0 < tenD e ∧ Bn 300 (tenD e) := by
  unfold tenF tenD
  by_cases h : 0 ≤ e
  · rw [if_pos h, if_pos h]
    exact ⟨ten_pos _, ten_bn (by omega), by decide, bn1⟩
  · rw [if_neg h, if_neg h]
    exact ⟨by decide, bn1, ten_pos _, ten_bn (by omega)⟩
/-! ### more of pairs -/
theorem row_mem {p : Int → Int → Bool} {b0 : Int} {nb : Nat} {a i j : Int} : num i j ∈ rowD p b0 nb a ↔ i = a ∧ b0 ≤ j ∧ j < b0 + nb ∧ p a j = true := by
  unfold rowD
  constructor
  · intro h
    obtain ⟨d, hd, e⟩ := List.mem_map.mp h
    obtain ⟨h1, h2⟩ := List.mem_filter.mp hd
    obtain ⟨k, rfl, k0, k1⟩ := rangeD_mem h1
    simp only [num, PyData.tuple.injEq, List.cons.injEq, PyData.int.injEq, and_true] at e
    obtain ⟨rfl, rfl⟩ := e
    exact ⟨rfl, k0, k1, h2⟩
  · rintro ⟨rfl, h1, h2, h3⟩
    refine List.mem_map.mpr ⟨.int j, List.mem_filter.mpr ⟨?_, h3⟩, rfl⟩
    unfold rangeD
    exact List.mem_map.mpr ⟨(j - b0).toNat, List.mem_range.mpr (by omega), by show PyData.int (b0 + ((j - b0).toNat : Int)) = _; rw [show b0 + ((j - b0).toNat : Int) = j by omega]⟩
theorem hits_mem {p : Int → Int → Bool} {b0 : Int} {nb : Nat} {a0 i j : Int} : ∀ n : Nat, num i j ∈ hitsD p b0 nb a0 n ↔ a0 ≤ i ∧ i < a0 + n ∧ b0 ≤ j ∧ j < b0 + nb ∧ p i j = true
  | 0 => by
    rw [hitsD]
    constructor
    · intro h; exact absurd h (by simp)
    · rintro ⟨h1, h2, _⟩; omega
  | n + 1 => by
    rw [hitsD, List.mem_append, hits_mem n, row_mem]
    constructor
    · rintro (⟨h1, h2, h3⟩ | ⟨h1, h2, h3, h4⟩)
      · exact ⟨h1, by omega, h3⟩
      · subst h1
        exact ⟨by omega, by omega, h2, h3, h4⟩
    · rintro ⟨h1, h2, h3, h4, h5⟩
      by_cases e : i = a0 + n
      · subst e
        exact .inr ⟨rfl, h3, h4, h5⟩
      · exact .inl ⟨h1, by omega, h3, h4, h5⟩
theorem nums_sortable {ds : List Da} (h : ∀ d ∈ ds, ∃ i j : Int, d = num i j) :
    PySem.W.AllAlike ds ∧ PySem.W.Sortable ds ∧ ∀ d ∈ ds, d.canLay0 = true ∧ d.depth ≤ 50 := by
  refine ⟨fun d hd e he => ?_, .inl fun d hd => ?_, fun d hd => ?_⟩
  · obtain ⟨i, x, rfl⟩ := h d hd
    obtain ⟨j, y, rfl⟩ := h e he
    simp [PySem.W.alike, PySem.W.alikeAll]
  · obtain ⟨i, x, rfl⟩ := h d hd
    exact ⟨_, _, rfl⟩
  · obtain ⟨i, x, rfl⟩ := h d hd
    exact ⟨rfl, by simp [PyData.depth, PyData.depthAll]⟩
theorem le_num {a b c d : Int} (h : PySem.W.dataLe false id (num a b) (num c d) = true) : a < c ∨ (a = c ∧ b ≤ d) := by
  rw [PySem.W.dataLe_eq] at h
  have h' : (!PySem.W.dataLt (num c d) (num a b)) = true := h
  rw [lt_num, Bool.not_eq_true', decide_eq_false_iff_not] at h'
  omega
def swapD : Da → Da
  | .tuple [x, y] => .tuple [y, x]
  | d => d
/-- the head of the turned hits, in order -/
theorem turned_first {p : Int → Int → Bool} {a0 a1 b0 b1 : Int} (ha : a0 ≤ a1) (hb : b0 ≤ b1) {ds : List Da} (pm : ds.Perm ((hitsD p b0 (b1 - b0).toNat a0 (a1 - a0).toNat).map swapD)) (pw : ds.Pairwise (fun a b => PySem.W.dataLe false id a b = true)) :
    (ds = [] ∧ hitsD p b0 (b1 - b0).toNat a0 (a1 - a0).toNat = []) ∨ ∃ q t, ds = nm q :: t ∧ Fst2 (fun b a => p a b = true) b0 b1 a0 a1 (some q) := by
  have hn := hits_num p b0 (b1 - b0).toNat a0 (a1 - a0).toNat
  have hm := fun i j => hits_mem (p := p) (b0 := b0) (nb := (b1 - b0).toNat) (a0 := a0) (i := i) (j := j) (a1 - a0).toNat
  generalize hitsD p b0 (b1 - b0).toNat a0 (a1 - a0).toNat = hs at *
  have mem : ∀ i j, num j i ∈ ds ↔ num i j ∈ hs := fun i j => by
    rw [pm.mem_iff]
    constructor
    · intro h
      obtain ⟨d, hd, e⟩ := List.mem_map.mp h
      obtain ⟨x, y, rfl⟩ := hn d hd
      simp only [swapD, num, PyData.tuple.injEq, List.cons.injEq, PyData.int.injEq, and_true] at e
      obtain ⟨rfl, rfl⟩ := e
      exact hd
    · exact fun h => List.mem_map.mpr ⟨_, h, rfl⟩
  cases ds with
  | nil =>
    refine .inl ⟨rfl, ?_⟩
    have := pm.length_eq
    simp at this
    exact List.length_eq_zero_iff.mp this.symm
  | cons d t =>
    right
    obtain ⟨i, j, rfl⟩ : ∃ i j : Int, d = num i j := by
      have := pm.mem_iff.mp (List.mem_cons_self (a := d) (l := t))
      obtain ⟨e, he, rfl⟩ := List.mem_map.mp this
      obtain ⟨x, y, rfl⟩ := hn e he
      exact ⟨y, x, rfl⟩
    have h1 := (hm j i).mp ((mem j i).mp List.mem_cons_self)
    refine ⟨(i, j), t, rfl, by show b0 ≤ i; omega, by show i < b1; omega, by show a0 ≤ j; omega, by show j < a1; omega, h1.2.2.2.2, fun b a x1 x2 x3 x4 x5 => ?_⟩
    show i < b ∨ (i = b ∧ j ≤ a)
    have hx : num b a ∈ num i j :: t := (mem a b).mpr ((hm a b).mpr ⟨x3, by omega, x1, by omega, x5⟩)
    rcases List.mem_cons.mp hx with e | e
    · simp only [num, PyData.tuple.injEq, List.cons.injEq, PyData.int.injEq, and_true] at e
      omega
    · exact le_num (List.rel_of_pairwise_cons pw e)
theorem prP_comm {c c' : List (Int × Ru)} {a b : Int} : prP c c' a b ↔ prP c c' b a := by
  unfold prP DfX
  rw [Int.mul_comm b a]
theorem prP_symm {c c' : List (Int × Ru)} {a b : Int} (h : (chT c).1 = (chT c').1) : prP c c' a b ↔ prP c' c a b := by
  unfold prP
  rw [h]
  exact dfx_symm
theorem quP_symm {c c' : List (Int × Ru)} {a b : Int} (h : (chT c).1 = (chT c').1) : quP c c' a b ↔ quP c' c a b := by
  unfold quP
  rw [h]
  exact dfx_symm
theorem Fst2_iff {P Q : Int → Int → Prop} {a0 a1 b0 b1 : Int} (h : ∀ a b, a0 ≤ a → a < a1 → b0 ≤ b → b < b1 → (P a b ↔ Q a b)) {r : Option (Int × Int)} (hr : Fst2 P a0 a1 b0 b1 r) : Fst2 Q a0 a1 b0 b1 r := by
  cases r with
  | none => exact fun a b x1 x2 x3 x4 x5 => hr a b x1 x2 x3 x4 ((h a b x1 x2 x3 x4).mpr x5)
  | some q =>
    obtain ⟨h1, h2, h3, h4, h5, h6⟩ := hr
    exact ⟨h1, h2, h3, h4, (h _ _ h1 h2 h3 h4).mp h5, fun a b x1 x2 x3 x4 x5 => h6 a b x1 x2 x3 x4 ((h a b x1 x2 x3 x4).mpr x5)⟩
/-! ### any(..) -/
def cAny : CF := fun rs post => match rs with
  | [.val (.list ds)] => (match boolsD ds with | some bs => post (.bool (bs.any id)) | none => False)
  | _ => False
theorem ok_any {K : Fg} : CallOk K (rAny K) cAny := fun F H a fu vs rs post Q e t hf k => by
  unfold cAny at hf
  split at hf
  · rename_i ds
    split at hf
    · rename_i bs q
      obtain ⟨v, rfl, r⟩ := t.v1
      cases r with
      | lst sq m =>
        rw [bools_v m q] at sq
        exact ⟨_, bs, rfl, .inl (.inl (e _ _ sq)), k _ _ H F hf (Gr.refl e) (.bl _)⟩
    · exact hf.elim
  · exact hf.elim
section
variable {X : Cx} {e : Expr} {tr : DA} {pos p : Pos}
theorem e_any (hc : X.calm = true) (hg : Gl X "any") (hm : X.mg "any" = none) (ha : PA X [e] (upA X.K tr)) (he : starEach [e] X.env = (false, eval e X.env) :: starEach [] X.env := by rfl) : PE X (.Call (.Name "any" p) [e] [] pos) (up X.K (dCB cAny tr)) := e_callB (cr_any hc) ok_any hg hm (by decide +kernel) ha (by decide) (by decide) he rfl
end
end Z

namespace Z
open L2 PySem PySem.Spec PyProof.Rows
/-- a comprehension that picks, with any target -/
theorem lc_filterT {sl : List (Option Sv)} {t : DG} {tt : DT} {te : DE} (p : Da → Bool) (f : Da → Da) {Q : List Da → Option Nat → Prop} {fu : Option Nat} : ∀ {ds acc : List Da},
    (∀ x ∈ ds, ∀ (R : Rv → Gs → Prop) (N : Gs → Prop), (p x = true → ∀ g3 : Gs, g3.fu = fu → R (.val (f x)) g3) → (p x = false → ∀ g2 : Gs, g2.fu = fu → N g2) → t (.val x) ⟨sl, fu, false⟩ fun g1 => tt g1 fun b g2 => (b = true → te g2 R) ∧ (b = false → N g2)) → acc.length + ds.length ≤ 1000000 → Q (acc ++ (ds.filter p).map f) fu → lcD sl t tt te ds acc fu Q
  | [], acc, _, _, h => by rw [List.filter_nil, List.map_nil, List.append_nil] at h; exact h
  | x :: xs, acc, hs, hl, h => by
    rw [List.length_cons] at hl
    refine hs x List.mem_cons_self (fun r g3 => match r with
      | .val d => acc.length < 1000000 ∧ lcD sl t tt te xs (acc ++ [d]) (fuN fu g3.fu) Q
      | _ => False) (fun g2 => lcD sl t tt te xs acc (fuN fu g2.fu) Q) (fun hp g3 e => ⟨by omega, ?_⟩) (fun hp g2 e => ?_)
    · rw [e, fuN_self]
      refine lc_filterT p f (fun y hy => hs y (List.mem_cons_of_mem _ hy)) ?_ ?_
      · rw [List.length_append, List.length_cons, List.length_nil]
        omega
      · rw [List.filter_cons_of_pos hp, List.map_cons] at h
        rw [List.append_assoc]
        exact h
    · rw [e, fuN_self]
      refine lc_filterT p f (fun y hy => hs y (List.mem_cons_of_mem _ hy)) (by omega) ?_
      rw [List.filter_cons_of_neg (by rw [hp]; decide)] at h
      exact h
/-! ### columns of hits -/
def sndIs (b : Int) : Da → Bool
  | .tuple [_, .int y] => decide (y = b)
  | _ => false
def fstOf : Da → Da
  | .tuple [x, _] => x
  | d => d
theorem cntP_eq (q : Int → Bool) (b b0 : Int) : ∀ n : Nat, cntP (fun y => q y && decide (y = b)) b0 n = if b0 ≤ b ∧ b < b0 + n ∧ q b = true then 1 else 0
  | 0 => by rw [cntP, if_neg (by omega)]
  | n + 1 => by
    rw [cntP, cntP_eq q b b0 n]
    by_cases e : b0 + n = b
    · subst e
      rw [if_neg (by omega)]
      by_cases hq : q (b0 + n) = true
      · rw [if_pos (by simp [hq]), if_pos ⟨by omega, by omega, hq⟩]; rfl
      · rw [if_neg (by simp [hq]), if_neg (fun z => hq z.2.2)]; rfl
    · have ne : ¬(q (b0 + n) && decide (b0 + (n : Int) = b)) = true := by simp [e]
      rw [if_neg ne]
      by_cases hq : b0 ≤ b ∧ b < b0 + n ∧ q b = true
      · rw [if_pos hq, if_pos ⟨hq.1, by omega, hq.2.2⟩]; rfl
      · rw [if_neg hq, if_neg (fun z => hq ⟨z.1, by omega, z.2.2⟩)]; rfl
theorem row_col {p : Int → Int → Bool} {b0 b a : Int} {nb : Nat} (h0 : b0 ≤ b) (h1 : b < b0 + nb) : (((rowD p b0 nb a).filter (sndIs b)).length : Int) = if p a b = true then 1 else 0 := by
  have e := cntP_eq (p a) b b0 nb
  rw [← cntP_len] at e
  have : (rowD p b0 nb a).filter (sndIs b) = ((rangeD b0 nb).filter (pD fun y => p a y && decide (y = b))).map fun d => .tuple [.int a, d] := by
    unfold rowD
    rw [List.filter_map, List.filter_filter]
    congr 1
    refine List.filter_congr fun x hx => ?_
    obtain ⟨i, rfl, _, _⟩ := rangeD_mem hx
    show (decide (i = b) && p a i) = (p a i && decide (i = b))
    rw [Bool.and_comm]
  rw [this, List.length_map, e]
  by_cases hq : p a b = true
  · rw [if_pos ⟨h0, h1, hq⟩, if_pos hq]
  · rw [if_neg (fun z => hq z.2.2), if_neg hq]
theorem hits_col {p : Int → Int → Bool} {b0 b a0 : Int} {nb : Nat} (h0 : b0 ≤ b) (h1 : b < b0 + nb) : ∀ n : Nat, (((hitsD p b0 nb a0 n).filter (sndIs b)).length : Int) = cntP (fun a => p a b) a0 n
  | 0 => rfl
  | n + 1 => by
    have ih := hits_col (p := p) (a0 := a0) h0 h1 n
    have r := row_col (p := p) (a := a0 + n) h0 h1
    rw [hitsD, List.filter_append, List.length_append, cntP]
    omega
/-! ### a power of two below changes nothing -/
theorem cell_scale {n d w : Int} (hn : 0 < n) (hd : 0 < d) (hw : 1 ≤ w) (k : Nat) : (cellI n (d * 2 ^ k) w).1 = (cellI n d w).1 ∧ posI n (d * 2 ^ k) w = posI n d w := by
  obtain ⟨p, q, he⟩ : ∃ p q : Nat, (cellI n d w).2 = (p : Int) - q := ⟨((cellI n d w).2).toNat, (-(cellI n d w).2).toNat, by omega⟩
  obtain ⟨c1, c2, c3, c4⟩ := cell_pq hn hd hw p q he
  have hb := Int.mul_pos hd (pow2_pos p)
  have hk := pow2_pos k
  have hB : 0 < d * 2 ^ k * 2 ^ p := Int.mul_pos (Int.mul_pos hd hk) (pow2_pos p)
  have cr : n * 2 ^ (q + k) * (d * 2 ^ p) = n * 2 ^ q * (d * 2 ^ k * 2 ^ p) := by
    rw [Int.pow_add]
    grind
  have e1 : n * 2 ^ (q + k) / (d * 2 ^ k * 2 ^ p) = n * 2 ^ q / (d * 2 ^ p) := div_cross hB hb cr
  rw [c1] at c2 c3
  obtain ⟨k1, k2⟩ := cell_at (p := p) (q := q + k) hn (Int.mul_pos hd hk) hw (by rw [e1]; exact c2) (by rw [e1]; exact c3)
  refine ⟨?_, ?_⟩
  · rw [k1, e1, ← c1]
  · rw [k2, c4]
    exact low_cross hB hb (mod_cross hB hb cr)
theorem cell_scale_n {n d w : Int} (hn : 0 < n) (hd : 0 < d) (hw : 1 ≤ w) (k : Nat) : (cellI (n * 2 ^ k) d w).1 = (cellI n d w).1 ∧ posI (n * 2 ^ k) d w = posI n d w := by
  obtain ⟨p, q, he⟩ : ∃ p q : Nat, (cellI n d w).2 = (p : Int) - q := ⟨((cellI n d w).2).toNat, (-(cellI n d w).2).toNat, by omega⟩
  obtain ⟨c1, c2, c3, c4⟩ := cell_pq hn hd hw p q he
  have hb := Int.mul_pos hd (pow2_pos p)
  have hk := pow2_pos k
  have hB : 0 < d * 2 ^ (p + k) := Int.mul_pos hd (pow2_pos _)
  have cr : n * 2 ^ k * 2 ^ q * (d * 2 ^ p) = n * 2 ^ q * (d * 2 ^ (p + k)) := by
    rw [Int.pow_add]
    grind
  have e1 : n * 2 ^ k * 2 ^ q / (d * 2 ^ (p + k)) = n * 2 ^ q / (d * 2 ^ p) := div_cross hB hb cr
  rw [c1] at c2 c3
  obtain ⟨k1, k2⟩ := cell_at (p := p + k) (q := q) (Int.mul_pos hn hk) hd hw (by rw [e1]; exact c2) (by rw [e1]; exact c3)
  refine ⟨?_, ?_⟩
  · rw [k1, e1, ← c1]
  · rw [k2, c4]
    exact low_cross hB hb (mod_cross hB hb cr)
theorem dfx_pow {w f d x : Int} {T U : Bool → Th} (hx : 0 < x * f) (hd : 0 < d) (hw : 1 ≤ w) (k : Nat) : DfX w T U f (d * 2 ^ k) x ↔ DfX w T U f d x := by
  obtain ⟨e1, e2⟩ := cell_scale hx hd hw k
  unfold DfX
  rw [e1, e2]
/-- one has every width -/
theorem appl_one {c : List (Int × Ru)} (hc : Chn1 c) : applI 1 1 c = (1, 1) := by
  have h0 : (posI 1 1 1).1 = 0 := by decide +kernel
  exact appl_self (w := 1) ⟨by decide, by decide, by decide⟩ (by decide) h0 fun s hs => (hc.w s hs).1
theorem qu_self {c c' : List (Int × Ru)} {a : Int} (hc : Chn1 c) (hc' : Chn1 c') (hw : (chT c).1 = (chT c').1) (ha : 0 < a) : ¬quP c c' a a := by
  unfold quP
  rw [← appl_df (f := 1) (d := a) (x := a) hc hc' hw (by omega) ha, Int.mul_one]
  have e : low a a = (1, 1) := by
    have := low_cross (x := a) (y := a) (x' := 1) (y' := 1) ha (by decide) (by omega)
    rw [this]
    exact low_one (by decide)
  rw [e]
  show ¬(applI 1 1 c ≠ applI 1 1 c')
  rw [appl_one hc, appl_one hc']
  simp
end Z

/-! ### ranges of any size -/
namespace L2
open PySem PySem.Spec PyProof.Rows
theorem turn_longX {P : Program} {w : World} {K : PySem.W.Frag} {tg : Expr} (it : Addr) (lo : Int) (n : Nat) : Turn P w K tg (Itr lo n) [it] it (fun i h => IsLongIter h it (lo + (i : Nat) * 1) ((n : Int) - (i : Nat)) 1) where
  mem := by simp
  obj := fun i h st b hb => by
    have e : b = it := by simpa using hb
    subst e
    exact ⟨_, st, fun v z => by
      have z' : Data.fields _ = Data.cell v := z
      cases z'⟩
  keep := fun i h h' st k => k it (by simp) _ st
  item := by
    intro X hP hw hK hc i pins s σ H E I hf st hg
    subst hP hw hK
    obtain ⟨f0, f1, f2, f3, f4, f5⟩ := hf it (by simp)
    have W := Walks.longrange (prog := X.prog) (w := X.w) (I.ok.hd hc) it lo 1 n
    refine W.item i s _ _ hg st fun v h' tk hv st' kk => ?_
    obtain ⟨t, rfl⟩ := hv
    have I1 : Inv X pins σ H { s with heap := h', toks := tk } := I.turned (fun b o hb e => kk b o (by simpa using hb) e) f0 f1 f3 f4 f5
    refine ⟨_, rfl, go_of (s := { s with heap := h', toks := tk }) (n := "longrange_iterator") st' rfl rfl (by decide) ⟨.int (lo + i), H, I1, ⟨t, ?_⟩, ⟨rfl, rfl⟩, st', fun b hb => (hf b hb).1⟩⟩
    rw [Int.mul_one]
  done := by
    intro X hP hw hK hc i pins s σ H E I hf st hg
    subst hP hw hK
    obtain ⟨f0, f1, f2, f3, f4, f5⟩ := hf it (by simp)
    exact wpAny_pyNext_long_end (I.ok.hd hc) st (by have : n ≤ i := hg; omega) fun h' eb => ⟨rfl, I.turned (t' := s.toks) (fun b o hb e => eb b o hb e) f0 f1 f3 f4 f5⟩
  self := fun _ _ _ _ _ st h => wpAny_pyIter_longiter st h
section
variable {X : Cx} {tg : Expr}
theorem range_itX {pins : List (Addr × Obj)} {σ : St} {H : Hp} {s : Shared} {R : It → Hp → Prop} {E : Value → Shared → Prop} {lo hi : Int} {t u v : Tok} {tk : Nat} (I : Inv X pins σ H s)
    (q : R (Itr lo (hi - lo).toNat) H) : wpAny (model X.prog X.w) X.A (pyIter (.ref s.heap.objs.size)) (PIE X pins σ tg R) E { s with heap := s.heap.push { cls := .type "range", data := .fields #[.int lo t, .int hi u, .int 1 v] }, toks := tk } := by
  have I1 : Inv X pins σ H { s with heap := s.heap.push { cls := .type "range", data := .fields #[.int lo t, .int hi u, .int 1 v] }, toks := tk } := I.kept fun b o e => Heap.get?_push_of_some _ e
  have e1 : lo + ((0 : Nat) : Int) * 1 = lo := by simp
  have e2 : (((hi - lo).toNat : Nat) : Int) - ((0 : Nat) : Int) = Builtin.Range.rangeSize lo hi 1 := by rw [rangeSize_one]; split <;> omega
  cases hb : Builtin.Range.small lo hi 1 with
  | true =>
    refine wpAny_pyIter_range (IsRange.new ..) hb ?_
    refine ⟨(s.heap.push { cls := .type "range", data := .fields #[.int lo t, .int hi u, .int 1 v] }).objs.size, [(s.heap.push { cls := .type "range", data := .fields #[.int lo t, .int hi u, .int 1 v] }).objs.size], _, _, H, rfl,
      I1.kept (t' := tk) fun b o e => Heap.get?_push_of_some _ e, turn_range _ lo (hi - lo).toNat, ?_, fun b hb => ?_, q⟩
    · show IsRangeIter _ _ (lo + ((0 : Nat) : Int) * 1) ((((hi - lo).toNat : Nat) : Int) - ((0 : Nat) : Int)) 1
      rw [e1, e2]
      exact Heap.get?_push_size _ rfl
    · have e : b = (s.heap.push { cls := .type "range", data := .fields #[.int lo t, .int hi u, .int 1 v] }).objs.size := by simpa using hb
      subst e
      exact I1.fpOk (Nat.le_refl _) (I1.hok.fresh (Nat.le_refl _))
  | false =>
    refine wpAny_pyIter_longrange (IsRange.new ..) hb ?_
    refine ⟨(s.heap.push { cls := .type "range", data := .fields #[.int lo t, .int hi u, .int 1 v] }).objs.size, [(s.heap.push { cls := .type "range", data := .fields #[.int lo t, .int hi u, .int 1 v] }).objs.size], _, _, H, rfl,
      I1.kept (t' := tk) fun b o e => Heap.get?_push_of_some _ e, turn_longX _ lo (hi - lo).toNat, ?_, fun b hb => ?_, q⟩
    · show IsLongIter _ _ (lo + ((0 : Nat) : Int) * 1) ((((hi - lo).toNat : Nat) : Int) - ((0 : Nat) : Int)) 1
      rw [e1, e2]
      exact Heap.get?_push_size _ rfl
    · have e : b = (s.heap.push { cls := .type "range", data := .fields #[.int lo t, .int hi u, .int 1 v] }).objs.size := by simpa using hb
      subst e
      exact I1.fpOk (Nat.le_refl _) (I1.hok.fresh (Nat.le_refl _))
def iRngX (ta : TA) : TI := fun σ H R => ta σ H fun vs H1 => ∃ i j : Int, vs = [.int i, .int j] ∧ R (Itr i (j - i).toNat) H1
theorem pi_range2X {a b : Expr} {ta : TA} {p pos : Pos} (hg : Gl X "range") (hm : X.mg "range" = none) (ha : PA X [a, b] ta) (hs : starEach [a, b] X.env = [(false, eval a X.env), (false, eval b X.env)] := by rfl) (hs2 : starEach [b] X.env = [(false, eval b X.env)] := by rfl) :
    PI X tg (.Call (.Name "range" p) [a, b] [] pos) (iRngX ta) := by
  refine ⟨fun pins s σ H R I h => ?_⟩
  refine Call_ (ld_blt I hg hm boot_range (PyProof.Rows.callWith_type1 (thn (ha.run pos pins s σ H _ I h) fun us s1 ⟨vs, H1, I1, r1, q1⟩ => ?_) (by rw [hs, hs2]) (by rw [hs2]; rfl)))
  obtain ⟨i, j, e, q⟩ := q1
  subst e
  cases r1 with
  | cons r rr =>
    cases rr with
    | cons r' rr =>
      cases rr
      obtain ⟨t, rfl⟩ := r
      obtain ⟨t', rfl⟩ := r'
      exact call_range_2 (range_itX I1 q)
end
end L2
namespace Z
open L2 PySem PySem.Spec PyProof.Rows
open Evl (Ex ex_l ex_t ex_rd fresh_back)
def dRange2X (ta tb : DE) : DW := fun g Q => ta g fun x g1 => tb g1 fun y g2 => match x, y with
  | .val (.int i), .val (.int j) => Q (rangeD i (j - i).toNat) g2
  | _, _ => False
section
variable {X : Cx} {l b tg : Expr} {ta tb : DE} {p pos : Pos}
theorem i_range2X (hg : Gl X "range") (hm : X.mg "range" = none) (ha : PE X l (up X.K ta)) (hb : PE X b (up X.K tb)) (hs : starEach [l, b] X.env = [(false, eval l X.env), (false, eval b X.env)] := by rfl) (hs2 : starEach [b] X.env = [(false, eval b X.env)] := by rfl) :
    PI X tg (.Call (.Name "range" p) [l, b] [] pos) (upI X.K (dRange2X ta tb)) := pi_to (pi_range2X hg hm (pa_cons ha (pa_cons hb pa_nil hs2) (by rw [hs, hs2])) hs hs2) fun σ H R q => by
  obtain ⟨c, g, tv, tr, F, a, post, s, t, k⟩ := q
  refine ⟨c, g, tv, tr, F, a, _, s, t, fun r g1 v H1 F1 a1 t1 s1 => ?_⟩
  refine ⟨c, g1, _, _, F1, a1, _, s1, t1, fun r2 g2 v2 H2 F2 a2 t2 s2 => ?_⟩
  split at t2
  · rename_i i j
    have hr : Rp X.K F2 v (.int i) := s2.pop1.top
    have hr2 : Rp X.K F2 v2 (.int j) := s2.top
    cases hr
    cases hr2
    exact ⟨i, j, rfl, k _ g2 H2 F2 a2 _ [] [] t2 s2.pop1.pop1 rfl rfl walkD_range⟩
  · exact t2.elim
end
end Z

namespace Z
open L2 PySem PySem.Spec PyProof.Rows
open Evl (Ex ex_l ex_t ex_rd fresh_back)
/-! ### {i: c}, {i: [c]}, d.get(i, x) -/
def keyIsI (i : Int) : Da → Bool
  | .int j => decide (j = i)
  | _ => false
def getI (es : List (Da × Da)) (i : Int) : Option Da := (es.find? fun p => keyIsI i p.1).map (·.2)
def dDI (i : Int) (d : Da) : DE := fun g Q => Q (.val (.dict [(.int i, d)])) g
def dGetI (i0 : Int) (d0 : Da) (te tf : DE) : DE := fun g Q => te g fun y g1 => tf g1 fun z g2 => match y with
  | .val (.int i) => (i = i0 → Q (.val d0) g2) ∧ (i ≠ i0 → Q z g2)
  | _ => False
theorem rpk_getI {K : Fg} {F : Hp} {x : Int} : ∀ {kvs : List (Key × V)} {es : List (Da × Da)}, RpK K F kvs es → (valV kvs (.inl x) = none ∧ getI es x = none) ∨ ∃ v d, valV kvs (.inl x) = some v ∧ getI es x = some d ∧ Rp K F v d
  | _, _, .nil => .inl ⟨rfl, rfl⟩
  | _, _, @RpK.cons _ _ k v vs d ds h t => by
    have e1 : decide (k = (Sum.inl x : Key)) = keyIsI x (keyD k) := by
      cases k with
      | inl i => simp [keyD, keyIsI]
      | inr y => simp [keyD, keyIsI]
    unfold valV getI
    cases q : keyIsI x (keyD k) with
    | true =>
      refine .inr ⟨v, d, ?_, ?_, h⟩
      · rw [List.find?_cons_of_pos (by rw [e1]; exact q)]
        rfl
      · rw [List.find?_cons_of_pos (p := fun p => keyIsI x p.1) (a := (keyD k, d)) q]
        rfl
    | false =>
      rw [List.find?_cons_of_neg (by rw [e1, q]; decide), List.find?_cons_of_neg (p := fun p => keyIsI x p.1) (a := (keyD k, d)) (by show ¬keyIsI x (keyD k) = true; rw [q]; decide)]
      exact rpk_getI t
section
variable {X : Cx} {o e f k : Expr} {td te tf : DE} {pos apos cpos p2 : Pos}
theorem e_dI {i j : Int} (hk : PE X k (tC (.int i))) (hv : PE X e (tC (.int j))) : PE X (.Dict [some k] [e] pos) (up X.K (dDI i (.int j))) := pe_to (pe_disp (pps_cons hk hv pps_nil) rfl rfl (by simp) (by simp)) fun σ H Q q => by
  obtain ⟨c, g, tv, tr, F, a, post, s, t, k⟩ := q
  intro p hp
  refine ⟨upd_same, [(.inl i, .int j)], rfl, by simp, ?_⟩
  rw [upd_twice]
  have gr := Gr.new (o := .dK [(.inl i, .int j)]) s.eh hp
  exact k _ g _ _ _ a t ((s.grow gr).push (r := .val (.dict [(.int i, .int j)])) (.dct (.inl upd_same) (.cons (.int _) .nil)))
theorem e_dIL {i j : Int} (hk : PE X k (tC (.int i))) (hv : PE X e (tC (.int j))) (hs : starEach [e] X.env = (false, eval e X.env) :: starEach [] X.env := by rfl) : PE X (.Dict [some k] [.List [e] p2] pos) (up X.K (dDI i (.list [.int j]))) := pe_to (pe_disp (pps_cons hk (pe_lst (pa_cons hv pa_nil hs)) pps_nil) rfl rfl (by simp) (by simp)) fun σ H Q q => by
  obtain ⟨c, g, tv, tr, F, a, post, s, t, k⟩ := q
  intro p hp
  refine ⟨by show 1 ≤ sizeLine; decide, fun r hr => ?_⟩
  have rp : r ≠ p := fun z => by subst z; rw [upd_same] at hr; cases hr
  have hr' : H r = none := by rw [upd_ne rp] at hr; exact hr
  refine ⟨by rw [upd_ne rp.symm]; exact upd_same, [(.inl i, .ref r)], rfl, by simp, ?_⟩
  have eH : upd (upd (upd H p (.dK [])) r (.lst [.int j])) p (.dK (mergeK [] [(.inl i, .ref r)])) = upd (upd H r (.lst [.int j])) p (.dK [(.inl i, .ref r)]) := by
    funext z
    by_cases h1 : z = p
    · subst h1; rw [upd_same, upd_same]; rfl
    · rw [upd_ne h1, upd_ne h1]
      by_cases h2 : z = r
      · subst h2; rw [upd_same, upd_same]
      · rw [upd_ne h2, upd_ne h2, upd_ne h1]
  rw [eH]
  have g1 := Gr.new (o := .lst [.int j]) s.eh hr'
  have g2 := Gr.new (o := .dK [(.inl i, .ref r)]) g1.s (by rw [upd_ne rp.symm]; exact hp)
  have s2 := (s.grow g1).grow g2
  refine k _ g _ _ _ a t (s2.push (r := .val (.dict [(.int i, .list [.int j])])) (.dct (.inl upd_same) (.cons ?_ .nil)))
  exact .lst (by rw [upd_ne rp]; exact upd_same) (.cons (.int _) .nil)
theorem e_getI {n : Nat} {i0 : Int} {d0 : Da} (hr : Room n X.A) (ho : PE X o (up X.K (dDI i0 d0))) (he : PE X e (up X.K te)) (hf : PE X f (up X.K tf)) (m : M2 X o "get" apos e f cpos) : PE X (.Call (.Attribute o "get" apos) [e, f] [] cpos) (up X.K (dGetI i0 d0 te tf)) := pe_to (pe_dget2 (Room.un1 hr) ho he hf m) fun σ H Q q => by
  obtain ⟨c, g, tv, tr, F, ad, post, s, t, k⟩ := q
  refine ⟨c, g, tv, tr, F, ad, fun x g1 => x = .val (.dict [(.int i0, d0)]) ∧ g1 = g, s, ⟨rfl, rfl⟩, fun x g1 v1 H1 F1 a1 t1 s1 => ?_⟩
  obtain ⟨rfl, rfl⟩ := t1
  have r1 : Rp X.K F1 v1 (.dict [(.int i0, d0)]) := s1.top
  cases r1 with
  | dct rd m =>
    rename_i aa kvs
    refine ⟨aa, rfl, .inl ⟨kvs, ex_rd s1.eh rd⟩, ?_⟩
    refine ⟨c, g1, _, _, F1, a1, _, s1, t, fun y g2 v2 H2 F2 a2 t2 s2 => ?_⟩
    refine ⟨c, g2, _, _, F2, a2, _, s2, t2, fun z g3 v3 H3 F3 a3 t3 s3 => ?_⟩
    cases y with
    | val e =>
      cases e with
      | int i =>
        have r2 : Rp X.K F3 v2 (.int i) := s3.pop1.top
        have r1 : Rp X.K F3 (.ref aa) (.dict [(.int i0, d0)]) := s3.pop1.pop1.top
        cases r2
        cases r1 with
        | dct rd' m' =>
          rename_i kvs'
          replace t3 : (i = i0 → post (.val d0) g3) ∧ (i ≠ i0 → post z g3) := t3
          rcases rpk_getI (x := i) m' with ⟨e1, e2⟩ | ⟨v, dd, e1, e2, rv⟩
          · have ne : i ≠ i0 := fun z => by
              subst z
              simp [getI, keyIsI] at e2
            refine ⟨none, .inl ⟨kvs', .inl i, ex_rd s3.eh rd', rfl, e1.symm⟩, ?_⟩
            have tp : RvOk X.K F3 a3 g3.fu v3 z := s3.top
            exact k _ g3 v3 H3 F3 a3 (t3.2 ne) (s3.pop1.pop1.pop1.push tp)
          · have eq : i = i0 ∧ dd = d0 := by
              by_cases z : i0 = i
              · subst z
                simp [getI, keyIsI] at e2
                exact ⟨rfl, e2.symm⟩
              · simp [getI, keyIsI, z] at e2
            obtain ⟨rfl, rfl⟩ := eq
            exact ⟨some v, .inl ⟨kvs', .inl i, ex_rd s3.eh rd', rfl, e1.symm⟩, k _ g3 v H3 F3 a3 (t3.1 rfl) (s3.pop1.pop1.pop1.push (r := .val dd) rv)⟩
      | _ => exact t3.elim
    | _ => exact t3.elim
/-- x, y, z = e, [..], c: y an own list -/
def dPar3M (i j l : Nat) (te : DE) (tl : DL) (z : Da) : DS := fun d g => te g fun r g1 => tl g1 fun ds g2 => d.nx (((g2.set j (.own ds)).set i (rsv r)).set l (.val z))
/-- x, y, z = [..], c, e: x an own list -/
def dPar3A (i j l : Nat) (tl : DL) (z : Da) (te : DE) : DS := fun d g => te g fun r g1 => tl g1 fun ds g2 => d.nx (((g2.set i (.own ds)).set l (rsv r)).set j (.val z))
theorem s_par3M {i j l : Nat} {x y z : Str} {a b c : Expr} {ta : DE} {tl : DL} {v : V} {zd : Da} {px py pz pt : Pos} {kt k2 : Nat} {pt2 : Pos} (hc : X.calm = true) (hN : X.N.Nodup) (hi : X.N[i]? = some x) (hj : X.N[j]? = some y) (hl : X.N[l]? = some z) (hij : i ≠ j) (hil : i ≠ l) (hjl : j ≠ l)
    (hx : X.env.scope.names.lookup x = some .local) (hy : X.env.scope.names.lookup y = some .local) (hz : X.env.scope.names.lookup z = some .local) (ha : PE X a (up X.K ta)) (hb : PE X b (upL X.K tl)) (hcc : PE X c (tC v)) (hv : ∀ F, Rp X.K F v zd)
    (hsw : swappedStores [.Tuple [.Name x px, .Name y py, .Name z pz] kt pt] (.Tuple [a, b, c] k2 pt2) X.env = pure (some [x, y, z]) := by rfl)
    (h1 : swapsWithSole [.Tuple [.Name x px, .Name y py, .Name z pz] kt pt] (.Tuple [a, b, c] k2 pt2) pos.line X.env = pure false := by rfl)
    (n1 : starEach [a, b, c] X.env = (false, eval a X.env) :: starEach [b, c] X.env := by rfl) (n2 : starEach [b, c] X.env = (false, eval b X.env) :: starEach [c] X.env := by rfl) (n3 : starEach [c] X.env = (false, eval c X.env) :: starEach [] X.env := by rfl) :
    PS X (.Assign [.Tuple [.Name x px, .Name y py, .Name z pz] kt pt] (.Tuple [a, b, c] k2 pt2) pos) (upS X.K (dPar3M i j l ta tl zd)) := ps_to (ps_par3 hc hN hi hj hl hij hil hjl hx hy hz (pa_cons ha (pa_cons hb (pa_cons hcc pa_nil n3) n2) n1) hsw h1) fun D σ H q => by
  obtain ⟨c, g, tv, tr, F, a, d, s, hn, t, k⟩ := q
  refine ⟨c, g, tv, tr, F, a, _, s, t, fun r g1 u H1 F1 a1 t1 s1 => ?_⟩
  refine ⟨c, g1, _, _, F1, a1, _, s1, t1, fun ds g2 w H2 F2 a2 t2 s2 n2 => ?_⟩
  refine ⟨u, w, v, rfl, ?_⟩
  rw [List.set_comm _ _ hij]
  exact k.nx _ _ H2 F2 a2 t2 (Sta.set (r := .val zd) (((s2.setOwn n2 j).set i).push (r := .val zd) (hv F2)) l)
end
end Z

namespace Z
open L2 PySem PySem.Spec PyProof.Rows
/-! ### counts: zero, doubled, cells -/
theorem cntX_zero {w f d st : Int} {T U : Bool → Th} : ∀ n : Nat, cntX w T U f d st n = 0 ↔ ∀ y, st ≤ y → y < st + n → ¬DfX w T U f d y
  | 0 => ⟨fun _ y h1 h2 => by omega, fun _ => rfl⟩
  | n + 1 => by
    have ih := cntX_zero (w := w) (f := f) (d := d) (st := st) (T := T) (U := U) n
    have rg := cntX_rng (w := w) (f := f) (d := d) (st := st) (T := T) (U := U) n
    rw [cntX]
    by_cases z : DfX w T U f d (st + n)
    · rw [if_pos z]
      exact ⟨fun q => by omega, fun q => absurd z (q _ (by omega) (by omega))⟩
    · rw [if_neg z, Int.add_zero, ih]
      refine ⟨fun q y h1 h2 => ?_, fun q y h1 h2 => q y h1 (by omega)⟩
      by_cases e : y = st + n
      · subst e; exact z
      · exact q y h1 (by omega)
theorem fx_none_iff {w f d st sp : Int} {T U : Bool → Th} {r : Option Int} (hr : FX w T U f d st sp r) : r = none ↔ cntX w T U f d st (sp - st).toNat = 0 := by
  rw [cntX_zero]
  cases r with
  | none => exact ⟨fun _ y h1 h2 => hr y h1 (by omega), fun _ => rfl⟩
  | some x =>
    have := hr.1
    have := hr.2.1
    exact ⟨fun z => (nomatch z), fun q => absurd hr.2.2.1 (q x hr.1 (by omega))⟩
theorem cntX_le {w f d st : Int} {T U : Bool → Th} {n m : Nat} (h : n ≤ m) : cntX w T U f d st n ≤ cntX w T U f d st m := by
  obtain ⟨k, rfl⟩ : ∃ k, m = n + k := ⟨m - n, by omega⟩
  have := cntX_add w T U f d st n k
  have := cntX_rng (w := w) (f := f) (d := d) (st := st + n) (T := T) (U := U) k
  omega
theorem dfx_dbl {w x : Int} {T U : Bool → Th} (hx : 0 < x) (hw : 1 ≤ w) (k : Nat) : DfX w T U 1 1 (x * 2 ^ k) ↔ DfX w T U 1 1 x := by
  obtain ⟨e1, e2⟩ := cell_scale_n (n := x) (d := 1) hx (by decide) hw k
  unfold DfX
  rw [Int.mul_one, Int.mul_one, e1, e2]
theorem cntX_dbl {w st : Int} {T U : Bool → Th} (h0 : 0 < st) (hw : 1 ≤ w) : ∀ n : Nat, cntX w T U 1 1 st n ≤ cntX w T U 1 1 (2 * st) (2 * n)
  | 0 => Int.le_refl _
  | n + 1 => by
    have ih := cntX_dbl (w := w) (T := T) (U := U) h0 hw n
    rw [show 2 * (n + 1) = 2 * n + 1 + 1 by omega, cntX, cntX, cntX, show 2 * st + ((2 * n : Nat) : Int) = (st + n) * 2 ^ 1 by rw [Int.pow_one]; omega]
    have e := dfx_dbl (w := w) (T := T) (U := U) (x := st + n) (by omega) hw 1
    by_cases z : DfX w T U 1 1 (st + n)
    · rw [if_pos z, if_pos (e.mpr z)]
      split <;> omega
    · rw [if_neg z, if_neg (fun q => z (e.mp q))]
      split <;> omega
/-! pairs with an operand that is a power of two -/
theorem prP_pow {c c' : List (Int × Ru)} {a : Int} (hc : Chn1 c) (ha : 0 < a) (k : Nat) : prP c c' a (2 ^ k) ↔ DfX (chT c).1 (chT c).2 (chT c').2 1 1 a := by
  obtain ⟨_, w1, _⟩ := chT_B hc.ne hc.w
  rw [← dfx_dbl ha w1 k]
  unfold prP DfX
  rw [Int.mul_one, Int.mul_comm]
theorem quP_pow {c c' : List (Int × Ru)} {a : Int} (hc : Chn1 c) (ha : 0 < a) (k : Nat) : quP c c' a (2 ^ k) ↔ DfX (chT c).1 (chT c).2 (chT c').2 1 1 a := by
  obtain ⟨_, w1, _⟩ := chT_B hc.ne hc.w
  have := dfx_pow (w := (chT c).1) (T := (chT c).2) (U := (chT c').2) (f := 1) (d := 1) (x := a) (by omega) (by decide) w1 k
  rw [Int.one_mul] at this
  exact this
theorem cnt2_row (p : Int → Int → Bool) (b0 : Int) (nb : Nat) (a0 : Int) : ∀ (n j : Nat), j < n → cntP (p (a0 + j)) b0 nb ≤ cnt2 p b0 nb a0 n
  | n + 1, j, h => by
    have r := cntP_rng (p (a0 + n)) b0 nb
    have r2 := cnt2_rng p b0 nb a0 n
    rw [cnt2]
    by_cases e : j = n
    · subst e; omega
    · have := cnt2_row p b0 nb a0 n j (by omega)
      omega
theorem cnt2_colle (p : Int → Int → Bool) (b0 b a0 : Int) (nb n : Nat) (h0 : b0 ≤ b) (h1 : b < b0 + nb) : cntP (fun a => p a b) a0 n ≤ cnt2 p b0 nb a0 n := by
  rw [cnt2_swap]
  have := cnt2_row (fun b a => p a b) a0 n b0 nb (b - b0).toNat (by omega)
  rw [show b0 + ((b - b0).toNat : Int) = b by omega] at this
  exact this
theorem cnt2_one_b (p : Int → Int → Bool) (b0 a0 : Int) : ∀ n : Nat, cnt2 p b0 1 a0 n = cntP (fun a => p a b0) a0 n
  | 0 => rfl
  | n + 1 => by
    rw [cnt2, cntP, cnt2_one_b p b0 a0 n, cntP, cntP]
    simp
theorem cnt2_one_a (p : Int → Int → Bool) (b0 a0 : Int) (nb : Nat) : cnt2 p b0 nb a0 1 = cntP (p a0) b0 nb := by
  rw [cnt2, cnt2]
  simp
/-! cells -/
theorem dfx_block {w P k i : Int} {T U : Bool → Th} (m : Nat) (hP : P = 2 ^ m) (hw : 1 ≤ w) (k1 : 2 ^ (w - 1).toNat ≤ k) (k2 : k < 2 ^ w.toNat) (i0 : 0 ≤ i) (i1 : i < P) : DfX w T U 1 1 (k * P + i) ↔ Dif T U (decide (k % 2 = 1)) i P := by
  have p0 : 0 < P := by omega
  have k0 : 0 < k := Int.lt_of_lt_of_le (pow2_pos _) k1
  have kp := Int.mul_pos k0 p0
  have e1 : (k * P + i) / P = k := by
    rw [Int.mul_comm, Int.mul_add_ediv_left _ _ (by omega), Int.ediv_eq_zero_of_lt i0 i1, Int.add_zero]
  have e2 : (k * P + i) % P = i := by
    rw [Int.emod_def, e1]
    grind
  have ed : (k * P + i) * 1 * 2 ^ 0 / (1 * 2 ^ m) = k := by rw [Int.pow_zero, Int.mul_one, Int.mul_one, Int.one_mul, ← hP, e1]
  have em : (k * P + i) * 1 * 2 ^ 0 % (1 * 2 ^ m) = i := by rw [Int.pow_zero, Int.mul_one, Int.mul_one, Int.one_mul, ← hP, e2]
  obtain ⟨c1, c2⟩ := cell_at (n := (k * P + i) * 1) (d := 1) (w := w) (p := m) (q := 0) (by omega) (by decide) hw (by rw [ed]; exact k1) (by rw [ed]; exact k2)
  unfold DfX
  rw [c1, c2, ed, em, Int.one_mul, ← hP]
  exact dif_low p0
theorem cntP_shift (p : Int → Bool) (a st : Int) : ∀ n : Nat, cntP p (a + st) n = cntP (fun i => p (a + i)) st n
  | 0 => rfl
  | n + 1 => by rw [cntP, cntP, cntP_shift p a st n, Int.add_assoc]
/-- how many places of a cell of this parity -/
def nbC (T U : Bool → Th) (b : Bool) (P : Int) : Int := cntP (fun i => decide (Dif T U b i P)) 0 P.toNat
theorem cnt_cell {w P k : Int} {T U : Bool → Th} (m : Nat) (hP : P = 2 ^ m) (hw : 1 ≤ w) (k1 : 2 ^ (w - 1).toNat ≤ k) (k2 : k < 2 ^ w.toNat) : cntX w T U 1 1 (k * P) P.toNat = nbC T U (decide (k % 2 = 1)) P := by
  have p0 : 0 < P := by rw [hP]; exact pow2_pos m
  rw [cntX_is]
  have := cntP_shift (fun x => decide (DfX w T U 1 1 x)) (k * P) 0 P.toNat
  rw [Int.add_zero] at this
  rw [this]
  unfold nbC
  refine cntP_congr _ fun i i0 i1 => ?_
  rw [decide_eq_decide]
  exact dfx_block m hP hw k1 k2 (by omega) (by omega)
theorem cnt_cells {w P k : Int} {T U : Bool → Th} (m : Nat) (hP : P = 2 ^ m) (hw : 1 ≤ w) (he : k % 2 = 0) (k1 : 2 ^ (w - 1).toNat ≤ k) : ∀ j : Nat, k + 2 * j ≤ 2 ^ w.toNat → cntX w T U 1 1 (k * P) (2 * j * P.toNat) = j * (nbC T U false P + nbC T U true P)
  | 0, _ => by rw [show 2 * 0 * P.toNat = 0 by omega, cntX]; simp
  | j + 1, h => by
    have p0 : 0 < P := by rw [hP]; exact pow2_pos m
    have ih := cnt_cells (T := T) (U := U) m hP hw he k1 j (by omega)
    have a1 := cnt_cell (w := w) (T := T) (U := U) (k := k + 2 * j) m hP hw (by omega) (by omega)
    have a2 := cnt_cell (w := w) (T := T) (U := U) (k := k + 2 * j + 1) m hP hw (by omega) (by omega)
    rw [show decide ((k + 2 * (j : Int)) % 2 = 1) = false from decide_eq_false (by omega)] at a1
    rw [show decide ((k + 2 * (j : Int) + 1) % 2 = 1) = true from decide_eq_true (by omega)] at a2
    have e : 2 * (j + 1) * P.toNat = 2 * j * P.toNat + (P.toNat + P.toNat) := by rw [Nat.mul_add, Nat.add_mul]; omega
    have eP : (P.toNat : Int) = P := by omega
    have s1 : k * P + ((2 * j * P.toNat : Nat) : Int) = (k + 2 * j) * P := by
      rw [Int.natCast_mul, Int.natCast_mul, eP]
      grind
    have s2 : (k + 2 * (j : Int)) * P + (P.toNat : Int) = (k + 2 * j + 1) * P := by
      rw [eP]
      grind
    rw [e, cntX_add, cntX_add, s1, s2, ih, a1, a2]
    grind
/-- all operands with m bits more than the last width -/
theorem cnt_all {w : Int} {T U : Bool → Th} (m : Nat) (hw : 2 ≤ w) : cntX w T U 1 1 (2 ^ (w + m - 1).toNat) (2 ^ (w + m).toNat - 2 ^ (w + m - 1).toNat : Int).toNat = 2 ^ (w - 2).toNat * (nbC T U false (2 ^ m) + nbC T U true (2 ^ m)) := by
  have h := cnt_cells (w := w) (T := T) (U := U) (k := 2 ^ (w - 1).toNat) (P := 2 ^ m) m rfl (by omega) ?_ (Int.le_refl _) (2 ^ (w - 2).toNat) ?_
  · have e1 : (2 : Int) ^ (w + m - 1).toNat = 2 ^ (w - 1).toNat * 2 ^ m := by rw [← Int.pow_add]; congr 1; omega
    have e2 : (2 : Int) ^ (w + m).toNat - 2 ^ (w + m - 1).toNat = 2 ^ (w - 1).toNat * 2 ^ m := by
      rw [show (w + m).toNat = (w + m - 1).toNat + 1 by omega, Int.pow_succ, e1]
      omega
    have e3 : ((2 : Int) ^ (w - 1).toNat * 2 ^ m).toNat = 2 * 2 ^ (w - 2).toNat * ((2 : Int) ^ m).toNat := by
      have q1 : ((2 : Int) ^ m).toNat = 2 ^ m := by
        have : ((2 ^ m : Nat) : Int) = (2 : Int) ^ m := by norm_cast
        rw [← this, Int.toNat_natCast]
      have q2 : (2 : Int) ^ (w - 1).toNat * 2 ^ m = ((2 * 2 ^ (w - 2).toNat * 2 ^ m : Nat) : Int) := by
        rw [show (w - 1).toNat = (w - 2).toNat + 1 by omega]
        push_cast
        grind
      rw [q1, q2, Int.toNat_natCast]
    rw [e2, e1, e3, h]
    push_cast
    rfl
  · rw [show (w - 1).toNat = (w - 2).toNat + 1 by omega, Int.pow_succ]
    omega
  · have q : ((2 ^ (w - 2).toNat : Nat) : Int) = (2 : Int) ^ (w - 2).toNat := by norm_cast
    rw [q, show (w - 1).toNat = (w - 2).toNat + 1 by omega, show w.toNat = (w - 2).toNat + 2 by omega, Int.pow_succ, Int.pow_add]
    have : (2 : Int) ^ 2 = 4 := by decide
    rw [this]
    omega
end Z

namespace Z
open L2 PySem PySem.Spec PyProof.Rows
open Evl (Ex ex_l ex_t ex_rd fresh_back)
/-! ### len of a list of one's own, which stays one's own -/
def dLenO (i : Nat) : DE := fun g Q => match g.sl[i]? with
  | some (some (.own ds)) => Q (.val (.int ds.length)) g
  | _ => False
section
variable {X : Cx} {e : Expr} {pos p : Pos}
theorem e_lenO (i : Nat) (h : PE X e (tVar i)) (hg : Gl X "len") (hm : X.mg "len" = none) (he : starEach [e] X.env = (false, eval e X.env) :: starEach [] X.env := by rfl) : PE X (.Call (.Name "len" p) [e] [] pos) (up X.K (dLenO i)) :=
  pe_to (pe_callB call_len hg hm PySem.boot_len (pa_cons h pa_nil he) (by decide) (by decide) he rfl) fun σ H Q q => by
    obtain ⟨c, g, tv, tr, F, a, post, s, t, k⟩ := q
    unfold dLenO at t
    split at t
    · rename_i ds hd
      obtain ⟨v, h1, o, xs, rfl, q2, q3, q4, q5, q6⟩ := s.slot i _ hd
      exact ⟨_, h1, _, _, rfl, .inl ⟨_, .inl (.inl q4), q5.len.symm⟩, k _ g _ H F a t (s.push (r := .val (.int ds.length)) (.int _))⟩
    · exact t.elim
end
end Z

namespace Z
open L2 PySem PySem.Spec PyProof.Rows
/-! ### scaling by powers of two, told for cells, ends and chains -/
theorem cell_shift {n d w : Int} (hn : 0 < n) (hd : 0 < d) (hw : 1 ≤ w) (i j : Nat) : cellI (n * 2 ^ i) (d * 2 ^ j) w = ((cellI n d w).1, (cellI n d w).2 + i - j) ∧ posI (n * 2 ^ i) (d * 2 ^ j) w = posI n d w := by
  obtain ⟨p, q, he⟩ : ∃ p q : Nat, (cellI n d w).2 = (p : Int) - q := ⟨((cellI n d w).2).toNat, (-(cellI n d w).2).toNat, by omega⟩
  obtain ⟨c1, c2, c3, c4⟩ := cell_pq hn hd hw p q he
  have hb := Int.mul_pos hd (pow2_pos p)
  have hi := pow2_pos i
  have hj := pow2_pos j
  have hB : 0 < d * 2 ^ j * 2 ^ (p + i) := Int.mul_pos (Int.mul_pos hd hj) (pow2_pos _)
  have cr : n * 2 ^ i * 2 ^ (q + j) * (d * 2 ^ p) = n * 2 ^ q * (d * 2 ^ j * 2 ^ (p + i)) := by
    rw [Int.pow_add, Int.pow_add]
    grind
  have e1 : n * 2 ^ i * 2 ^ (q + j) / (d * 2 ^ j * 2 ^ (p + i)) = n * 2 ^ q / (d * 2 ^ p) := div_cross hB hb cr
  rw [c1] at c2 c3
  obtain ⟨k1, k2⟩ := cell_at (p := p + i) (q := q + j) (Int.mul_pos hn hi) (Int.mul_pos hd hj) hw (by rw [e1]; exact c2) (by rw [e1]; exact c3)
  refine ⟨?_, ?_⟩
  · rw [k1, e1, ← c1, he]
    congr 1
    omega
  · rw [k2, c4]
    exact low_cross hB hb (mod_cross hB hb cr)
theorem cell_scI {n d w : Int} (hn : 0 < n) (hd : 0 < d) (hw : 1 ≤ w) (e : Int) : cellI (scI n d e).1 (scI n d e).2 w = ((cellI n d w).1, (cellI n d w).2 + e) ∧ posI (scI n d e).1 (scI n d e).2 w = posI n d w := by
  obtain ⟨h1, h2⟩ := cell_shift hn hd hw e.toNat (-e).toNat
  refine ⟨?_, h2⟩
  show cellI (n * 2 ^ e.toNat) (d * 2 ^ (-e).toNat) w = _
  rw [h1]
  congr 1
  omega
theorem pow_scl {k E e : Int} (hk : 0 < k) : powI k (E + e) = low (scI (powI k E).1 (powI k E).2 e).1 (scI (powI k E).1 (powI k E).2 e).2 := by
  obtain ⟨p, q, he⟩ : ∃ p q : Nat, E = (p : Int) - q := ⟨E.toNat, (-E).toNat, by omega⟩
  have v := pow_val (k := k) he
  obtain ⟨x0, y0, _⟩ := pow_pos (k := k) (e := E) hk
  generalize powI k E = z at *
  have n0 : 0 < z.1 * 2 ^ e.toNat := Int.mul_pos x0 (pow2_pos _)
  have d0 : 0 < z.2 * 2 ^ (-e).toNat := Int.mul_pos y0 (pow2_pos _)
  obtain ⟨l1, l2, l3, _, _⟩ := low_pos n0 d0
  have hv := low_val (x := z.1 * 2 ^ e.toNat) d0
  show powI k (E + e) = low (z.1 * 2 ^ e.toNat) (z.2 * 2 ^ (-e).toNat)
  generalize low (z.1 * 2 ^ e.toNat) (z.2 * 2 ^ (-e).toNat) = u at *
  refine pow_is (p := p + e.toNat) (q := q + (-e).toNat) (by omega) hk l2 l3 ?_
  have c : z.2 * (u.1 * 2 ^ (q + (-e).toNat)) = z.2 * (k * 2 ^ (p + e.toNat) * u.2) := by
    rw [Int.pow_add, Int.pow_add]
    generalize (2 : Int) ^ q = Q at *
    generalize (2 : Int) ^ p = P at *
    generalize (2 : Int) ^ e.toNat = A at *
    generalize (2 : Int) ^ (-e).toNat = B at *
    grind
  exact Int.eq_of_mul_eq_mul_left (Int.ne_of_gt y0) c
theorem thr_scl {n d w e : Int} {T : Bool → Th} (hn : 0 < n) (hd : 0 < d) (hw : 1 ≤ w) : thrI (low (scI n d e).1 (scI n d e).2).1 (low (scI n d e).1 (scI n d e).2).2 w T = low (scI (thrI n d w T).1 (thrI n d w T).2 e).1 (scI (thrI n d w T).1 (thrI n d w T).2 e).2 := by
  obtain ⟨s1, s2⟩ := scI_pos (f := e) hn hd
  obtain ⟨e1, e2⟩ := cell_lowX s1 s2 hw
  obtain ⟨f1, f2⟩ := cell_scI hn hd hw e
  obtain ⟨_, c2, _, _⟩ := cellI_spec hn hd hw
  have k0 : 0 < (cellI n d w).1 := Int.lt_of_lt_of_le (pow2_pos _) c2
  unfold thrI
  rw [e1, e2, f1, f2]
  dsimp only
  exact pow_scl (by split <;> omega)
theorem appl_scl {c : List (Int × Ru)} {n d e : Int} (hc : Chn1 c) (h : Nu n d) : applI (low (scI n d e).1 (scI n d e).2).1 (low (scI n d e).1 (scI n d e).2).2 c = low (scI (applI n d c).1 (applI n d c).2 e).1 (scI (applI n d c).1 (applI n d c).2 e).2 := by
  obtain ⟨_, w1, w2⟩ := chT_B hc.ne hc.w
  obtain ⟨s1, s2⟩ := scI_pos (f := e) h.n0 h.d0
  obtain ⟨l1, l2, l3, _, _⟩ := low_pos s1 s2
  rw [chain_law hc.ne hc.w ⟨l1, l2, l3⟩, chain_law hc.ne hc.w h]
  exact thr_scl h.n0 h.d0 w1
/-! ### two pairs in order -/
theorem perm_two {α : Type} {xs : List α} {a b : α} (h : xs.Perm [a, b]) : xs = [a, b] ∨ xs = [b, a] := by
  have hl : xs.length = 2 := h.length_eq
  match xs, hl with
  | [x, y], _ =>
    have h1 : x ∈ [a, b] := h.mem_iff.mp (by simp)
    rcases List.mem_cons.mp h1 with rfl | h1
    · have := (List.perm_cons x).mp h
      rw [List.perm_singleton] at this
      cases this
      exact .inl rfl
    · have e : x = b := by simpa using h1
      subst e
      have := (List.perm_cons x).mp (h.trans (List.Perm.swap x a []))
      rw [List.perm_singleton] at this
      cases this
      exact .inr rfl
/-- two pairs in order are the same two in order -/
theorem sort_two {xs ys : List Da} {a b c d : Int × Int} (hx : xs.Perm [nm a, nm b]) (px : xs.Pairwise (fun a b => PySem.W.dataLe false id a b = true)) (hy : ys.Perm [nm c, nm d]) (py : ys.Pairwise (fun a b => PySem.W.dataLe false id a b = true))
    (h : (a = c ∧ b = d) ∨ (a = d ∧ b = c)) : xs = ys := by
  have k : ∀ p q : Int × Int, PySem.W.dataLe false id (nm p) (nm q) = true → PySem.W.dataLe false id (nm q) (nm p) = true → p = q := fun p q h1 h2 => by
    have a1 := le_num h1
    have a2 := le_num h2
    exact Prod.ext (by omega) (by omega)
  have two : ∀ p q : Da, [p, q].Pairwise (fun a b => PySem.W.dataLe false id a b = true) → PySem.W.dataLe false id p q = true := fun p q h => by simpa using h
  rcases h with ⟨rfl, rfl⟩ | ⟨rfl, rfl⟩ <;> rcases perm_two hx with rfl | rfl <;> rcases perm_two hy with rfl | rfl <;> first
    | rfl
    | (rw [k _ _ (two _ _ px) (two _ _ py)])
end Z

namespace Z
open L2 PySem PySem.Spec PyProof.Rows
open Evl (Ex ex_l ex_t ex_rd fresh_back)
/-! ### methods and makings, by promises with the guards known -/
section
variable {X : Cx} {CX : CXT} {k : Nat} {f C : Addr} {fd : FuncData} {ps : List Str} {sp : Sp} {E : XK} {x m : Str} {p pos apos : Pos} {e o : Expr} {es : List Expr} {ta : TE} {t : TA}
theorem pe_methF {pl : Sem Bool} (he : PE X o ta) (c : Cls X.K C) (hm : Meth X.K C m f) (F : Fn X.prog X.w X.K X.mg X.base CX k f fd ps sp) (hr : Room k X.A) (hgd : X.A.guards = some []) (hb : Binds X.K fd ps []) (hx : Passes CX X E) (ha : PA X (e :: es) t)
    (hst : starEach (e :: es) X.env = (false, eval e X.env) :: starEach es X.env := by rfl) (hpl : (backTo pos (starEach es X.env)).any (·.1) = false := by rfl)
    (ht : eval (.Call (.Attribute o m apos) (e :: es) [] pos) X.env = (do
      let ov ← eval o X.env
      standAt apos.atName
      let (f, first) ← holding [ov] (getMethod ov m pl)
      callWith pos f first (backTo pos (starEach (e :: es) X.env)) (backToKw pos (keywordEach [] X.env))) := by rfl) :
    PE X (.Call (.Attribute o m apos) (e :: es) [] pos) (tMeth C m sp [] E ta t) := by
  refine ⟨fun pins s σ H Q I h => ?_⟩
  refine PySem.W.methodCall_KW (pl := pl) (thn (he.run pins s σ H _ I h) fun u s1 ⟨x, H1, I1, rx, a, dx, fs, ex, ea, l, q⟩ => ?_) ht
  subst ex
  obtain rfl : u = Value.ref a := rx
  refine getmeth_ok I1 ea c hm l ?_
  refine PySem.W.callWith_K (first := [.ref a]) (h₀ := X.base) I.ok.mod.kin hm.kp (thn (ha.run pos pins s1 σ H1 _ I1 q) fun us s2 ⟨vs, H2, I2, r, q2⟩ => ⟨I2.kIn, ?_⟩) hst hpl
  have q2 : sp (.ref a :: (vs ++ [])) H2 Q E := q2
  rw [List.append_nil] at q2
  exact call_fin (us := .ref a :: us) (vs := .ref a :: vs) F hr hgd hx I2 hb (.cons rfl r) q2
theorem pe_methF0 {pl : Sem Bool} (he : PE X o ta) (c : Cls X.K C) (hm : Meth X.K C m f) (F : Fn X.prog X.w X.K X.mg X.base CX k f fd ps sp) (hr : Room k X.A) (hgd : X.A.guards = some []) (hb : Binds X.K fd ps []) (hx : Passes CX X E)
    (ht : eval (.Call (.Attribute o m apos) [] [] pos) X.env = (do
      let ov ← eval o X.env
      standAt apos.atName
      let (f, first) ← holding [ov] (getMethod ov m pl)
      callWith pos f first (backTo pos (starEach [] X.env)) (backToKw pos (keywordEach [] X.env))) := by rfl) :
    PE X (.Call (.Attribute o m apos) [] [] pos) (tMeth C m sp [] E ta fun _ H Q => Q [] H) := by
  refine ⟨fun pins s σ H Q I h => ?_⟩
  refine PySem.W.methodCall_KW (pl := pl) (thn (he.run pins s σ H _ I h) fun u s1 ⟨x, H1, I1, rx, a, dx, fs, ex, ea, l, q⟩ => ?_) ht
  subst ex
  obtain rfl : u = Value.ref a := rx
  refine getmeth_ok I1 ea c hm l ?_
  exact PySem.W.callWith_K0 (first := [.ref a]) I1.kIn hm.kp (call_fin (us := [.ref a]) (vs := [.ref a]) F hr hgd hx I1 hb (.cons rfl .nil) q)
theorem run_makeF {pins : List (Addr × Obj)} {σ : L2.St} {H : Hp} {s : Shared} {Q : VK} {us : List Value} {vs : List V} (M : Mk X.K C f) (F : Fn X.prog X.w X.K X.mg X.base CX k f fd ps sp) (hr : Room (k + 1) X.A) (hgd : X.A.guards = some []) (hb : Binds X.K fd ps [])
    (hx : Passes CX X E) (I : Inv X pins σ H s) (r : Vals vs us)
    (h : ∀ x dx, H x = none → H dx = none → dx ≠ x → sp (.ref x :: vs) (upd (upd H dx (.own x)) x (.ins C dx [])) (fun v H2 => v = .non ∧ Q (.ref x) H2) E) :
    wpAny (model X.prog X.w) X.A (call (.ref C) us) (EP X pins σ Q) X.xe s := by
  have hq := h (s.heap.objs.size + 1) s.heap.objs.size (I.hok.fresh (Nat.le_succ _)) (I.hok.fresh (Nat.le_refl _)) (Nat.ne_of_lt (Nat.lt_succ_self _))
  have I2 := Inv.made (C := C) I
  have r2 : Vals (V.ref (s.heap.objs.size + 1) :: vs) (Value.ref (s.heap.objs.size + 1) :: us) := .cons rfl r
  have hl : (Value.ref (s.heap.objs.size + 1) :: us).length = ps.length := by
    have e := r2.length
    rw [F.len _ _ _ _ hq] at e
    exact e.symm
  have hb' := hb _ (Value.ref (s.heap.objs.size + 1) :: us) I2.kIn (by rw [List.append_nil]; exact hl)
  rw [List.append_nil] at hb'
  refine wpAny_call (make_map (f := f) I.kIn M.makes M.init (beq_iff_eq.mp M.fn) (codeAny_mono (F.run _ X.stack _ _ ⟨Value.ref (s.heap.objs.size + 1) :: us, []⟩ (Value.ref (s.heap.objs.size + 1) :: us) _ _ E (hr.make C us []) hgd
    (I2.env0.make C us []) hb' r2 hq) fun r s' hq' => ?_))
  cases r with
  | error e => exact hx pins σ _ _ e s' I2 hq'
  | ok fl =>
    cases fl with
    | ret u =>
      obtain ⟨v, H', I3, rv, ev, q3⟩ := I2.after hq'
      subst ev
      exact ⟨rv, ⟨V.ref (s.heap.objs.size + 1), H', I3, rfl, q3⟩⟩
    | next => exact False.elim hq'
    | brk => exact False.elim hq'
    | cont => exact False.elim hq'
theorem pe_makeF (M : Mk X.K C f) (F : Fn X.prog X.w X.K X.mg X.base CX k f fd ps sp) (hr : Room (k + 1) X.A) (hgd : X.A.guards = some []) (hg : Gl X x) (hm : X.mg x = some (.ref C)) (hb : Binds X.K fd ps []) (hx : Passes CX X E)
    (ha : PA X (e :: es) t) (hdb : (x == ("__debug__" : Str)) = false := by decide) (he : starEach (e :: es) X.env = (false, eval e X.env) :: starEach es X.env := by rfl) (hpl : (backTo pos (starEach es X.env)).any (·.1) = false := by rfl) :
    PE X (.Call (.Name x p) (e :: es) [] pos) (tMake C sp [] E t) := by
  refine ⟨fun pins s σ H Q I h => ?_⟩
  refine wpAny_Call_Name_kw (ld_glob I hg hm ?_ hdb)
  refine PySem.W.callWith_K (h₀ := X.base) I.ok.mod.kin M.kp (thn (ha.run pos pins s σ H _ I h) fun us s1 ⟨vs, H1, I1, r, q⟩ => ⟨I1.kIn, ?_⟩) he hpl
  refine run_makeF M F hr hgd hb hx I1 r fun x dx h1 h2 h3 => ?_
  have := q x dx h1 h2 h3
  rw [List.append_nil] at this
  exact this
end
/-! ### by data -/
/-- o.f of a still instance -/
def dFld (nm f : Str) (ta : DE) : DE := fun g Q => ta g fun r g1 => match r with
  | .ob (.ins n fs) => n = nm ∧ match fs.lookup f with
    | some d => Q (.val d) g1
    | none => False
  | .ob (.insAt _ n fs) => n = nm ∧ match fs.lookup f with
    | some d => Q (.val d) g1
    | none => False
  | _ => False
def dMeth (nm m : Str) (np : Nat) (fs : FSp) (to : DE) (ta : DA) : DE := fun g Q => to g fun r g1 => match r with
  | .ob (.ins n us) => n = nm ∧ us.lookup m = none ∧ ta g1 fun rs g2 => rs.length + 1 = np ∧ hasSrc rs = false ∧ fs (.ob (.ins n us) :: rs) none fun r _ => Q (rrv r) g2
  | .ob (.insAt _ n us) => n = nm ∧ us.lookup m = none ∧ ta g1 fun rs g2 => rs.length + 1 = np ∧ hasSrc rs = false ∧ fs (.ob (.ins n us) :: rs) none fun r _ => Q (rrv r) g2
  | _ => False
/-- what an __init__ makes: the fields, told of the arguments -/
abbrev ISp := List Rv → (List (Str × Da) → Prop) → Prop
def dMake (nm : Str) (np : Nat) (fi : ISp) (ta : DA) : DE := fun g Q => ta g fun rs g1 => rs.length + 1 = np ∧ hasSrc rs = false ∧ fi rs fun fs => Q (.ob (.ins nm fs)) g1
/-- an __init__'s promise: from the new instance at p -/
def liftI (K : Fg) (nm : Str) (np : Nat) (fi : ISp) : Sp := fun vs H Q _ => ∃ (p C dx : Addr) (vs' : List V) (F : Hp) (a : Addr) (rs : List Rv) (post : List (Str × Da) → Prop), vs = .ref p :: vs' ∧ vs'.length + 1 = np ∧ PySem.W.nsIn K mainGlobals nm = some (some (.ref C)) ∧ Ex F H ∧ F p = none ∧ H p = some (.ins C dx []) ∧
  Tm K F a none vs' rs ∧ fi rs post ∧ ∀ (fs : List (Str × Da)) (us : List (Str × V)) (F' H' : Hp), post fs → Ex F F' → Ex F' H' → F' p = none → H' p = some (.ins C dx us) → us.map Prod.fst = fs.map Prod.fst → Rps K F' (us.map Prod.snd) (fs.map Prod.snd) →
    (∀ b o, b ≠ p → H b = some o → H' b = some o) → (∀ b, F' b ≠ none → F b ≠ none ∨ H b = none) → Q .non H'
theorem liftI_len {K : Fg} {nm : Str} {np : Nat} {fi : ISp} (vs : List V) (H : Hp) (Q : VK) (E : XK) (h : liftI K nm np fi vs H Q E) : vs.length = np := by
  obtain ⟨p, _, _, vs', _, _, _, _, rfl, h, _⟩ := h
  exact h
theorem lookup_by {α β : Type} {R : α → β → Prop} : ∀ {us : List (Str × α)} {fs : List (Str × β)} {f : Str} , us.map Prod.fst = fs.map Prod.fst → (∀ (i : Nat) x y, (us.map Prod.snd)[i]? = some x → (fs.map Prod.snd)[i]? = some y → R x y) → (∀ y, fs.lookup f = some y → ∃ x, us.lookup f = some x ∧ R x y) ∧ (fs.lookup f = none → us.lookup f = none)
  | [], [], f, _, _ => ⟨fun y h => (by cases h), fun _ => rfl⟩
  | [], _ :: _, _, h, _ => by cases h
  | _ :: _, [], _, h, _ => by cases h
  | (n, x) :: us, (n', y) :: fs, f, h, hr => by
    rw [List.map_cons, List.map_cons] at h
    injection h with h1 h2
    have h1 : n = n' := h1
    subst h1
    have ih := lookup_by (f := f) h2 fun i x y a b => hr (i + 1) x y (by simpa using a) (by simpa using b)
    have h0 := hr 0 x y rfl rfl
    by_cases e : (f == n) = true
    · simp only [List.lookup, e]
      exact ⟨fun z hz => (by cases hz; exact ⟨x, rfl, h0⟩), fun z => (by cases z)⟩
    · have e : (f == n) = false := by simpa using e
      simp only [List.lookup, e]
      exact ih
theorem Rps.at {K : Fg} {F : Hp} : ∀ {vs : List V} {ds : List Da}, Rps K F vs ds → ∀ (i : Nat) v d, vs[i]? = some v → ds[i]? = some d → Rp K F v d
  | _, _, .nil, i, v, d, h, _ => by simp at h
  | _, _, .cons r t, 0, v, d, h1, h2 => by simp at h1 h2; subst h1; subst h2; exact r
  | _, _, .cons r t, i + 1, v, d, h1, h2 => Rps.at t i v d (by simpa using h1) (by simpa using h2)
section
variable {X : Cx} {CX : CXT} {k np : Nat} {f C : Addr} {fd : FuncData} {ps : List Str} {E : XK} {x m n nm : Str} {p pos apos : Pos} {e o : Expr} {es : List Expr} {ta to : DE} {tr : DA} {fs : FSp} {fi : ISp}
theorem e_fld (hC : PySem.W.nsIn X.K mainGlobals nm = some (some (.ref C))) (cl : Cls X.K C) (na : NoAttr X.K C n) (he : PE X e (up X.K ta)) (hb : attributeBase e n X.env (eval e X.env) = eval e X.env := by rfl) : PE X (.Attribute e n pos) (up X.K (dFld nm n ta)) :=
  pe_to (pe_fld he hb) fun σ H Q q => by
  obtain ⟨c, g, tv, tr, F, a, post, s, t, k⟩ := q
  refine ⟨c, g, tv, tr, F, a, _, s, t, fun r g1 v H1 F1 a1 t1 s1 => ?_⟩
  split at t1
  · rename_i n' fs
    obtain ⟨e1, t1⟩ := t1
    subst e1
    split at t1
    · rename_i d hd
      obtain ⟨p, C', dx, us, rfl, hC', hF, hn, hr⟩ := s1.top
      rw [hC] at hC'
      cases hC'
      obtain ⟨u, h1, h2⟩ := (lookup_by (f := n) hn fun i x y a b => Rps.at hr i x y a b).1 d hd
      exact ⟨p, C, dx, us, u, rfl, s1.eh _ _ hF, cl, na, h1, k _ g1 u H1 F1 a1 t1 (s1.pop1.push (r := .val d) h2)⟩
    · exact t1.elim
  · rename_i p n' fs
    obtain ⟨e1, t1⟩ := t1
    subst e1
    split at t1
    · rename_i d hd
      obtain ⟨C', dx, us, rfl, hC', hF, hn, hr⟩ := s1.top
      rw [hC] at hC'
      cases hC'
      obtain ⟨u, h1, h2⟩ := (lookup_by (f := n) hn fun i x y a b => Rps.at hr i x y a b).1 d hd
      exact ⟨p, C, dx, us, u, rfl, s1.eh _ _ hF, cl, na, h1, k _ g1 u H1 F1 a1 t1 (s1.pop1.push (r := .val d) h2)⟩
    · exact t1.elim
  · exact t1.elim
theorem meth_core (hC : PySem.W.nsIn X.K mainGlobals nm = some (some (.ref C))) : ∀ σ H Q, up X.K (dMeth nm m np fs to tr) σ H Q → tMeth C m (lift X.K np fs) [] E (up X.K to) (upA X.K tr) σ H Q := fun σ H Q q => by
  obtain ⟨c, g, tv, tr, F, ad, post, s, t, k⟩ := q
  refine ⟨c, g, tv, tr, F, ad, _, s, t, fun r g1 v H1 F1 a1 t1 s1 => ?_⟩
  split at t1
  · rename_i n' us
    obtain ⟨e1, hl0, t1⟩ := t1
    subst e1
    obtain ⟨p, C', dx, vs0, rfl, hC', hF, hn, hr⟩ := id s1.top
    rw [hC] at hC'
    cases hC'
    refine ⟨p, dx, vs0, rfl, s1.eh _ _ hF, (lookup_by (f := m) hn fun i x y a b => Rps.at hr i x y a b).2 hl0, ?_⟩
    refine ⟨c, g1, _, _, F1, a1, _, s1, t1, fun rs g2 vs H2 F2 a2 t2 s2 hl => ?_⟩
    obtain ⟨h1, h2, h3⟩ := t2
    obtain ⟨m1, m2⟩ := s2.tmp.args hl
    have s3 := (s2.pop m2).pop1
    have top : RvOk X.K F2 a2 none (.ref p) (.ob (.ins n' us)) := (s2.pop m2).top
    rw [List.append_nil]
    refine ⟨F2, a2, .ob (.ins n' us) :: rs, none, _, s2.eh, .cons top (m1.noSrc h2), by rw [List.length_cons]; omega, fun n h => by (cases h), h3, fun r fu' v H' F' hp o => ?_⟩
    have s4 := s3.after0 o
    cases r with
    | val d => exact k _ _ v H' F' a2 hp (s4.push (r := .val d) o.rep)
    | own ds =>
      obtain ⟨F'', s5⟩ := s4.still (NewL.of s3 rfl id o.rep)
      exact k _ _ v H' F'' a2 hp s5
  · rename_i p n' us
    obtain ⟨e1, hl0, t1⟩ := t1
    subst e1
    obtain ⟨C', dx, vs0, rfl, hC', hF, hn, hr⟩ := id s1.top
    rw [hC] at hC'
    cases hC'
    refine ⟨p, dx, vs0, rfl, s1.eh _ _ hF, (lookup_by (f := m) hn fun i x y a b => Rps.at hr i x y a b).2 hl0, ?_⟩
    refine ⟨c, g1, _, _, F1, a1, _, s1, t1, fun rs g2 vs H2 F2 a2 t2 s2 hl => ?_⟩
    obtain ⟨h1, h2, h3⟩ := t2
    obtain ⟨m1, m2⟩ := s2.tmp.args hl
    have s3 := (s2.pop m2).pop1
    have top : RvOk X.K F2 a2 none (.ref p) (.ob (.ins n' us)) := by
      obtain ⟨C2, dx2, us2, q⟩ := (s2.pop m2).top
      exact ⟨p, C2, dx2, us2, q⟩
    rw [List.append_nil]
    refine ⟨F2, a2, .ob (.ins n' us) :: rs, none, _, s2.eh, .cons top (m1.noSrc h2), by rw [List.length_cons]; omega, fun n h => by (cases h), h3, fun r fu' v H' F' hp o => ?_⟩
    have s4 := s3.after0 o
    cases r with
    | val d => exact k _ _ v H' F' a2 hp (s4.push (r := .val d) o.rep)
    | own ds =>
      obtain ⟨F'', s5⟩ := s4.still (NewL.of s3 rfl id o.rep)
      exact k _ _ v H' F'' a2 hp s5
  · exact t1.elim
theorem e_meth {pl : Sem Bool} (hC : PySem.W.nsIn X.K mainGlobals nm = some (some (.ref C))) (cl : Cls X.K C) (hm : Meth X.K C m f) (G : Fn X.prog X.w X.K X.mg X.base CX k f fd ps (lift X.K np fs)) (hr : Room k X.A) (hgd : X.A.guards = some []) (hb : Binds X.K fd ps []) (hx : Passes CX X E) (ho : PE X o (up X.K to)) (ha : PA X (e :: es) (upA X.K tr))
    (hst : starEach (e :: es) X.env = (false, eval e X.env) :: starEach es X.env := by rfl) (hpl : (backTo pos (starEach es X.env)).any (·.1) = false := by rfl)
    (ht : eval (.Call (.Attribute o m apos) (e :: es) [] pos) X.env = (do
      let ov ← eval o X.env
      standAt apos.atName
      let (f, first) ← holding [ov] (getMethod ov m pl)
      callWith pos f first (backTo pos (starEach (e :: es) X.env)) (backToKw pos (keywordEach [] X.env))) := by rfl) :
    PE X (.Call (.Attribute o m apos) (e :: es) [] pos) (up X.K (dMeth nm m np fs to tr)) := pe_to (pe_methF ho cl hm G hr hgd hb hx ha hst hpl ht) (meth_core hC)
theorem e_meth0 {pl : Sem Bool} (hC : PySem.W.nsIn X.K mainGlobals nm = some (some (.ref C))) (cl : Cls X.K C) (hm : Meth X.K C m f) (G : Fn X.prog X.w X.K X.mg X.base CX k f fd ps (lift X.K np fs)) (hr : Room k X.A) (hgd : X.A.guards = some []) (hb : Binds X.K fd ps []) (hx : Passes CX X E) (ho : PE X o (up X.K to))
    (ht : eval (.Call (.Attribute o m apos) [] [] pos) X.env = (do
      let ov ← eval o X.env
      standAt apos.atName
      let (f, first) ← holding [ov] (getMethod ov m pl)
      callWith pos f first (backTo pos (starEach [] X.env)) (backToKw pos (keywordEach [] X.env))) := by rfl) :
    PE X (.Call (.Attribute o m apos) [] [] pos) (up X.K (dMeth nm m np fs to dNil)) := pe_to (pe_methF0 ho cl hm G hr hgd hb hx ht) fun σ H Q q => by
  have := meth_core (E := E) hC σ H Q q
  obtain ⟨c, g, tv, tr, F, ad, post, s, t, k⟩ := this
  refine ⟨c, g, tv, tr, F, ad, post, s, t, fun r g1 v H1 F1 a1 t1 s1 => ?_⟩
  obtain ⟨p, dx, us, h1, h2, h3, h4⟩ := k r g1 v H1 F1 a1 t1 s1
  refine ⟨p, dx, us, h1, h2, h3, ?_⟩
  obtain ⟨c, g, tv, tr, F, a, post, s, t, k⟩ := h4
  have t : post [] g := t
  exact k [] g [] H1 F a t s rfl
theorem make_core (hC : PySem.W.nsIn X.K mainGlobals nm = some (some (.ref C))) : ∀ σ H Q, up X.K (dMake nm np fi tr) σ H Q → tMake C (liftI X.K nm np fi) [] E (upA X.K tr) σ H Q := fun σ H Q q => by
  obtain ⟨c, g, tv, tr, F, ad, post, s, t, k⟩ := q
  refine ⟨c, g, tv, tr, F, ad, _, s, t, fun rs g1 vs H1 F1 a1 t1 s1 hl x dx hx hd ne => ?_⟩
  obtain ⟨h1, h2, h3⟩ := t1
  obtain ⟨m1, m2⟩ := s1.tmp.args hl
  have s2 := s1.pop m2
  have fx := fresh_back s1.eh hx
  have fd := fresh_back s1.eh hd
  rw [List.append_nil]
  refine ⟨x, C, dx, vs, F1, a1, rs, _, rfl, by omega, hC, fun b o hb => ?_, fx, upd_same, m1.noSrc h2, h3, fun fs us F' H' hp eF eH nx hi hn hr kp nw => ⟨rfl, ?_⟩⟩
  · rw [upd_ne (fun z => by rw [z, fx] at hb; cases hb), upd_ne (fun z => by rw [z, fd] at hb; cases hb)]
    exact s1.eh _ _ hb
  · have gr : Gr F1 H1 (upd F' x (.ins C dx us)) H' := by
      refine ⟨eF.trans (Ex.new nx), fun b o hb => ?_, fun b o hb => ?_, fun b hb => ?_⟩
      · have n1 : b ≠ x := fun z => by rw [z, hx] at hb; cases hb
        have n2 : b ≠ dx := fun z => by rw [z, hd] at hb; cases hb
        exact kp b o n1 (by rw [upd_ne n1, upd_ne n2]; exact hb)
      · by_cases z : b = x
        · subst z; rw [upd_same] at hb; cases hb; exact hi
        · rw [upd_ne z] at hb; exact eH b o hb
      · by_cases z : b = x
        · subst z; exact .inr hx
        · rw [upd_ne z] at hb
          rcases nw b hb with w | w
          · exact .inl w
          · rw [upd_ne z] at w
            by_cases z2 : b = dx
            · subst z2; exact .inr hd
            · rw [upd_ne z2] at w; exact .inr w
    refine k _ _ _ H' _ a1 hp ((s2.grow gr).push (r := .ob (.ins nm fs)) ⟨x, C, dx, us, rfl, hC, upd_same, hn, hr.up (Ex.new nx)⟩)
theorem e_make (hC : PySem.W.nsIn X.K mainGlobals nm = some (some (.ref C))) (M : Mk X.K C f) (G : Fn X.prog X.w X.K X.mg X.base CX k f fd ps (liftI X.K nm np fi)) (hr : Room (k + 1) X.A) (hgd : X.A.guards = some []) (hg : Gl X nm) (hm : X.mg nm = some (.ref C)) (hb : Binds X.K fd ps []) (hx : Passes CX X E)
    (ha : PA X (e :: es) (upA X.K tr)) (hdb : (nm == ("__debug__" : Str)) = false := by decide) (he : starEach (e :: es) X.env = (false, eval e X.env) :: starEach es X.env := by rfl) (hpl : (backTo pos (starEach es X.env)).any (·.1) = false := by rfl) :
    PE X (.Call (.Name nm p) (e :: es) [] pos) (up X.K (dMake nm np fi tr)) := pe_to (pe_makeF M G hr hgd hg hm hb hx ha hdb he hpl) (make_core hC)
end
end Z

namespace Z
open L2 PySem PySem.Spec PyProof.Rows
open Evl (Ex ex_l ex_t ex_rd fresh_back)
/-! ### a straight __init__, told by data -/
def isOwn : Option Sv → Bool
  | some (.own _) => true
  | _ => false
structure StI (K : Fg) (p C dx : Addr) (F0 H0 : Hp) (g : Gs) (σ : L2.St) (H F : Hp) (a : Addr) (us : List (Str × V)) (fs : List (Str × Da)) : Prop where
  st : Sta K ⟨F, H, none⟩ g σ H [] [] F a
  fu : g.fu = none
  sl0 : g.sl[0]? = some (some (.ob (.at p)))
  ins : H p = some (.ins C dx us)
  fp : F p = none
  nm : us.map Prod.fst = fs.map Prod.fst
  rp : Rps K F (us.map Prod.snd) (fs.map Prod.snd)
  e0 : Ex F0 F
  kp : ∀ b o, b ≠ p → H0 b = some o → H b = some o
  nw : ∀ b, F b ≠ none → F0 b ≠ none ∨ H0 b = none
abbrev DSI := Addr → (Gs → List (Str × Da) → Prop) → Gs → List (Str × Da) → Prop
def upI2 (K : Fg) (C : Addr) (t : DSI) : TS := fun D σ H => ∃ (p dx : Addr) (F0 H0 : Hp) (g : Gs) (F : Hp) (a : Addr) (us : List (Str × V)) (fs : List (Str × Da)) (N : Gs → List (Str × Da) → Prop),
  StI K p C dx F0 H0 g σ H F a us fs ∧ t p N g fs ∧ ∀ g' σ' H' F' a' us' fs', N g' fs' → StI K p C dx F0 H0 g' σ' H' F' a' us' fs' → D.nx σ' H'
/-- self.f = e -/
def iFld (f : Str) (te : DE) : DSI := fun p N g fs => te g fun r g' => match r with
  | .val d => fs.lookup f = none ∧ fs.length < 900 ∧ g'.fu = none ∧ g'.sl.any isOwn = false ∧ g'.sl[0]? = some (some (.ob (.at p))) ∧ N g' (fs ++ [(f, d)])
  | _ => False
/-- any other statement -/
def iSt (t : DS) : DSI := fun p N g fs => t ⟨fun g' => g'.fu = none ∧ g'.sl.any isOwn = false ∧ g'.sl[0]? = some (some (.ob (.at p))) ∧ N g' fs, fun _ _ => False, fun _ => False, fun _ => False⟩ g
def iSeq (t u : DSI) : DSI := fun p N g fs => t p (fun g' fs' => u p N g' fs') g fs
section
variable {K : Fg} {p C dx : Addr} {F0 H0 : Hp} {g g' : Gs} {σ σ' : L2.St} {H F H' F' : Hp} {a a' : Addr} {us : List (Str × V)} {fs : List (Str × Da)}
theorem no_own (h : g'.sl.any isOwn = false) {i : Nat} {ds : List Da} : g'.sl[i]? ≠ some (some (.own ds)) := fun z => by
  have h1 := List.mem_of_getElem? z
  rw [List.any_eq_false] at h
  exact h _ h1 rfl
/-- the state from now on -/
theorem Sta.rebase {c : Con} (s : Sta K c g' σ' H' [] [] F' a') (fu : g'.fu = none) (no : g'.sl.any isOwn = false) : Sta K ⟨F', H', none⟩ g' σ' H' [] [] F' a' :=
  ⟨Ex.refl _, s.eh, fun b o _ h => h, fun b h => .inl h, fun b h => (by cases h), fun _ => rfl, fun n h => (by rw [fu] at h; cases h), s.tmp, s.len, fun i sv h => by
    obtain ⟨v, h1, h2⟩ := s.slot i sv h
    refine ⟨v, h1, ?_⟩
    cases sv with
    | own ds => exact absurd h (no_own no)
    | _ => exact h2, s.dis⟩
theorem StI.next (t : StI K p C dx F0 H0 g σ H F a us fs) (s : Sta K ⟨F, H, none⟩ g' σ' H' [] [] F' a') (fu : g'.fu = none) (no : g'.sl.any isOwn = false) (sl0 : g'.sl[0]? = some (some (.ob (.at p)))) : StI K p C dx F0 H0 g' σ' H' F' a' us fs := by
  have kp : ∀ b o, H b = some o → H' b = some o := fun b o h => s.keep b o (fun z => by cases z) h
  have fp : F' p = none := by
    cases q : F' p with
    | none => rfl
    | some u =>
      rcases s.new p (ne_none q) with z | z
      · exact absurd t.fp z
      · have : H p = none := z
        rw [t.ins] at this
        cases this
  refine ⟨s.rebase fu no, fu, sl0, kp _ _ t.ins, fp, t.nm, t.rp.up s.e0, t.e0.trans s.e0, fun b o n h => kp b o (t.kp b o n h), fun b h => ?_⟩
  rcases s.new b h with z | z
  · exact t.nw b z
  · by_cases q : b = p
    · subst q; exact absurd fp h
    · refine .inr ?_
      cases w : H0 b with
      | none => rfl
      | some o =>
        have z : H b = none := z
        rw [t.kp b o q w] at z
        cases z
end
theorem putF_new {f : Str} {v : V} : ∀ {us : List (Str × V)}, us.lookup f = none → putF f v us = us ++ [(f, v)]
  | [], _ => rfl
  | (g, x) :: r, h => by
    by_cases e : (f == g) = true
    · simp only [List.lookup, e] at h
      cases h
    · have e' : (f == g) = false := by simpa using e
      simp only [List.lookup, e'] at h
      have ne : ¬ g = f := fun z => e (by simp [z])
      rw [putF, if_neg ne, putF_new h]
      rfl
section
variable {X : Cx} {C : Addr} {e : Expr} {te : DE} {f : Str} {pos p1 p2 : Pos} {st : Stmt} {rest : List Stmt} {t u : DSI} {ts : DS}
theorem si_fld (cl : Cls X.K C) (na : NoAttr X.K C f) (he : PE X e (up X.K te)) (hself : PE X (.Name "self" p1) (tVar 0)) (hs : swapsWith e (some (.Attribute (.Name "self" p1) f p2)) pos.line X.env = pure false := by rfl) : PS X (.Assign [.Attribute (.Name "self" p1) f p2] e pos) (upI2 X.K C (iFld f te)) := ps_to (ps_fld hself he hs) fun D σ H q => by
  obtain ⟨p, dx, F0, H0, g, F, a, us, fs, N, s, t, k⟩ := q
  refine ⟨_, g, [], [], F, a, _, s.st, t, fun r g1 v H1 F1 a1 t1 s1 => ?_⟩
  split at t1
  · rename_i d
    obtain ⟨h1, h2, h3, h4, h5, h6⟩ := t1
    have n := s.next s1.pop1 h3 h4 h5
    obtain ⟨w, w1, w2⟩ := n.st.slot 0 _ h5
    have w2 : w = .ref p := w2
    subst w2
    have rv : Rp X.K F1 v d := s1.top
    have lu : us.lookup f = none := (lookup_by (f := f) s.nm fun i x y a b => Rps.at s.rp i x y a b).2 h1
    have hl : us.length = fs.length := by
      have := congrArg List.length s.nm
      simpa using this
    refine ⟨.ref p, w1, p, C, dx, us, rfl, n.ins, cl, na, by omega, ?_⟩
    rw [putF_new lu]
    have ef : Ex F1 (upd H1 p (.ins C dx (us ++ [(f, v)]))) := fun b o h => by
      rw [upd_ne (fun z => by rw [z, n.fp] at h; cases h)]
      exact n.st.eh b o h
    refine k g1 σ _ F1 a1 (us ++ [(f, v)]) (fs ++ [(f, d)]) h6 ⟨?_, h3, h5, upd_same, n.fp, by rw [List.map_append, List.map_append, n.nm]; rfl, by rw [List.map_append, List.map_append]; exact n.rp.app (.cons rv .nil), n.e0, fun b o nb h => by rw [upd_ne nb]; exact n.kp b o nb h, n.nw⟩
    refine ⟨Ex.refl _, ef, fun b o _ h => h, fun b h => .inl h, fun b h => (by cases h), fun _ => rfl, fun m h => (by rw [h3] at h; cases h), .nil, n.st.len, fun i sv h => ?_, n.st.dis⟩
    obtain ⟨v', q1, q2⟩ := n.st.slot i sv h
    refine ⟨v', q1, ?_⟩
    cases sv with
    | own ds => exact absurd h (no_own h4)
    | _ => exact q2
  · exact t1.elim
theorem si_st (h : PS X st (upS X.K ts)) : PS X st (upI2 X.K C (iSt ts)) := ps_to h fun D σ H q => by
  obtain ⟨p, dx, F0, H0, g, F, a, us, fs, N, s, t, k⟩ := q
  exact ⟨_, g, [], [], F, a, _, s.st, rfl, t, ⟨fun g1 σ1 H1 F1 a1 h1 s1 => k g1 σ1 H1 F1 a1 us fs h1.2.2.2 (s.next s1 h1.1 h1.2.1 h1.2.2.1), fun _ _ _ _ _ h => h.elim, fun _ _ _ _ _ h => h.elim, fun _ _ _ _ _ _ _ h => h.elim, fun _ _ _ _ _ _ _ h => h.elim⟩⟩
theorem sis_one (h : PS X st (upI2 X.K C t)) : PSs X [st] (upI2 X.K C t) := pss_one h
theorem sis_cons (h1 : PS X st (upI2 X.K C t)) (h2 : PSs X rest (upI2 X.K C u)) : PSs X (st :: rest) (upI2 X.K C (iSeq t u)) := pss_to (pss_cons h1 h2) fun D σ H q => by
  obtain ⟨p, dx, F0, H0, g, F, a, us, fs, N, s, t, k⟩ := q
  exact ⟨p, dx, F0, H0, g, F, a, us, fs, _, s, t, fun g1 σ1 H1 F1 a1 us1 fs1 h1 s1 => ⟨p, dx, F0, H0, g1, F1, a1, us1, fs1, N, s1, h1, k⟩⟩
end
section
variable {P : Program} {w : World} {K : Fg} {mg : Str → Option Value} {base : Heap} {CX : CXT}
theorem fn_init {nm x qual : Str} {st : Stmt} {f C : Addr} {fd : FuncData} {N ps : List Str} {k : Nat} {fi : ISp} (hC : PySem.W.nsIn K mainGlobals nm = some (some (.ref C))) (Fu : Fun K x qual st f fd) (S : FnScope N ps (defScope st)) (tb : DSI)
    (hd : ∀ (cdv : Value) (A : Around) (outer : List Env) (s : Shared) (H : Hp) (E : XK), Room k (A.deeper (envOfC qual (defScope st) s.heap.objs.size f cdv)) → (A.deeper (envOfC qual (defScope st) s.heap.objs.size f cdv)).guards = some [] →
      PSs (cxOf CX P w K mg base N qual (defScope st) f cdv A outer s H E).nox (defBody st) (upI2 K C tb))
    (hb : ∀ p rs post, rs.length + 1 = ps.length → fi rs post → tb p (fun _ fs => post fs) (ent N (.ob (.at p) :: rs) none) []) : Fn P w K mg base CX (k + 1) f fd ps (liftI K nm ps.length fi) := by
  refine fn_by Fu S liftI_len fun cdv A outer s H vs Q E hr hg h => ⟨_, (hd cdv A outer s H E hr hg).nox, ?_⟩
  obtain ⟨p, C', dx, vs', F, a, rs, post, rfl, hl, hC', e, fp, hp, t, hf, hq⟩ := h
  rw [hC] at hC'
  cases hC'
  have t1 : Tm K F a none (.ref p :: vs') (.ob (.at p) :: rs) := .cons (show RvOk K F a none (.ref p) (.ob (.at p)) from (rfl : (.ref p : V) = .ref p)) t
  have st0 := sta_ent (N := N) e t1 fun n z => by cases z
  have hrs : rs.length + 1 = ps.length := by rw [← t.len]; exact hl
  refine ⟨p, dx, F, H, _, F, a, [], [], _, ⟨st0, rfl, rfl, hp, fp, rfl, .nil, Ex.refl _, fun b o _ h => h, fun b h => .inl h⟩, hb p rs post hrs hf, fun g' σ' H' F' a' us' fs' hp' s' => ?_⟩
  exact hq fs' us' F' H' hp' s'.e0 s'.st.eh s'.fp s'.ins s'.nm s'.rp s'.kp s'.nw
end
end Z

namespace Z
open L2 PySem PySem.Spec PyProof.Rows
open Evl (Ex ex_l ex_t ex_rd fresh_back)
/-! ### a def that is not reached -/
theorem fn_never {P : Program} {w : World} {K : Fg} {mg : Str → Option Value} {base : Heap} {CX : CXT} {k : Nat} {f : Addr} {fd : FuncData} {ps : List Str} {n : Nat} (h : ps.length = n) : Fn P w K mg base CX k f fd ps (lift K n fun _ _ _ => False) :=
  ⟨fun vs H Q E q => by rw [lift_len vs H Q E q, h], fun _ _ _ _ _ _ _ _ _ _ _ _ _ _ q => by
    obtain ⟨_, _, _, _, _, _, _, _, _, q, _⟩ := q
    exact q.elim⟩
/-! ### a list unpacked -/
def dTL (n : Nat) (t : DGs) : DG := fun r g Q => match r with
  | .val (.list ds) => ds.length = n ∧ t ds g Q
  | _ => False
section
variable {X : Cx} {pos : Pos} {es : List Expr}
theorem g_unl {n k : Nat} {t : DGs} (hc : X.calm = true) (h : PGs X es (upGs X.K t)) (hn : (assignEach es X.env).length = n := by rfl) (hf : List.findIdx? (fun x => x.1) (assignEach es X.env) = none := by rfl) : PG X (.Tuple es k pos) (upG X.K (dTL n t)) :=
  pg_to (pg_unl hc h hn hf) fun v σ H Q q => by
  obtain ⟨c, g, tv, tr, F, a, r, post, s, t, k⟩ := q
  cases r with
  | val d =>
    cases d with
    | list ds =>
      have hr : Rp X.K F v (.list ds) := s.top
      cases hr with
      | lst sq m =>
        refine ⟨_, _, rfl, .inl (.inl (s.eh _ _ sq)), by rw [m.len]; exact t.1, c, g, tv, tr, F, a, ds, post, s.pop ((Tm.ofRps m).app s.pop1.tmp), m.len, t.2, k⟩
    | _ => exact t.elim
  | _ => exact t.elim
end
/-! ### sums and distances of operands: plain law -/
theorem forD_ix0 {t : DG} {tb : DS} {d : DEnds} (I : Nat → Gs → Prop) {ds : List Da} {g : Gs} (h1 : ∀ (i : Nat) x, ds[i]? = some x → ∀ g, I i g → ∀ N : Gs → Prop, (∀ g', I (i + 1) g' → N g') → t (.val x) g fun g1 => tb { d with nx := N, ct := N, bk := d.nx } g1)
    (h2 : ∀ g, I ds.length g → d.nx g) (h3 : I 0 g) : forD t tb ds d g := by
  refine forD_ix (k := 0) I (fun i x hx g hg N hN => ?_) (fun g hg => ?_) h3
  · rw [Nat.zero_add] at hg hN
    exact h1 i x hx g hg N hN
  · rw [Nat.zero_add] at hg
    exact h2 g hg
theorem rangeD_at {lo : Int} {n k : Nat} {x : Da} (h : (rangeD lo n)[k]? = some x) : k < n ∧ x = .int (lo + k) := by
  have hk := (List.getElem?_eq_some_iff.mp h).1
  rw [rangeD_len] at hk
  unfold rangeD at h
  rw [List.getElem?_map, List.getElem?_range hk] at h
  cases h
  exact ⟨hk, rfl⟩
theorem cntP_add (p : Int → Bool) (st : Int) (n : Nat) : ∀ m : Nat, cntP p st (n + m) = cntP p st n + cntP p (st + n) m
  | 0 => by rw [Nat.add_zero, cntP, Int.add_zero]
  | m + 1 => by
    rw [← Nat.add_assoc, cntP, cntP_add p st n m, cntP, show st + ((n + m : Nat) : Int) = st + n + m by omega]
    omega
theorem cntP_shf (p : Int → Bool) (k st : Int) : ∀ n : Nat, cntP (fun x => p (k + x)) st n = cntP p (k + st) n
  | 0 => rfl
  | n + 1 => by rw [cntP, cntP, cntP_shf p k st n, Int.add_assoc]
theorem cntP_rev (p : Int → Bool) (k st : Int) : ∀ n : Nat, cntP (fun x => p (k - x)) st n = cntP p (k - st - n + 1) n
  | 0 => rfl
  | n + 1 => by
    have e := cntP_add p (k - st - ((n + 1 : Nat) : Int) + 1) 1 n
    rw [Nat.add_comm 1 n] at e
    rw [e, cntP, cntP_rev p k st n, cntP, cntP, show k - st - ((n + 1 : Nat) : Int) + 1 + ((0 : Nat) : Int) = k - (st + n) by omega, show k - st - ((n + 1 : Nat) : Int) + 1 + ((1 : Nat) : Int) = k - st - n + 1 by omega]
    omega
theorem cntP_none {p : Int → Bool} {st : Int} : ∀ n : Nat, (∀ x, st ≤ x → x < st + n → p x = false) → cntP p st n = 0
  | 0, _ => rfl
  | n + 1, h => by
    rw [cntP, cntP_none n fun x h1 h2 => h x h1 (by omega), h (st + n) (by omega) (by omega)]
    rfl
def dist (a b : Int) : Int := if a - b < 0 then -(a - b) else a - b
theorem cnt_dist (q : Int → Bool) {B l h : Int} (hl : 0 < l) (lh : l ≤ h) : cntP (fun b => decide (0 < dist B b) && q (dist B b)) l (h - l).toNat =
    cntP q (if B - h + 1 > 1 then B - h + 1 else 1) (B - l + 1 - (if B - h + 1 > 1 then B - h + 1 else 1)).toNat + cntP q (if 1 > l - B then 1 else l - B) (h - B - (if 1 > l - B then 1 else l - B)).toNat := by
  have up : ∀ (st : Int) (n : Nat), B < st → cntP (fun b => decide (0 < dist B b) && q (dist B b)) st n = cntP q (st - B) n := fun st n hs => by
    rw [show st - B = -B + st by omega]
    refine Eq.trans (cntP_congr n fun x h1 h2 => ?_) (cntP_shf q (-B) st n)
    have e : dist B x = -B + x := by unfold dist; rw [if_pos (by omega)]; omega
    rw [e, decide_eq_true (by omega), Bool.true_and]
  have dn : ∀ (st : Int) (n : Nat), st + n ≤ B → cntP (fun b => decide (0 < dist B b) && q (dist B b)) st n = cntP q (B - st - n + 1) n := fun st n hs => by
    refine Eq.trans (cntP_congr n fun x h1 h2 => ?_) (cntP_rev q B st n)
    have e : dist B x = B - x := by unfold dist; rw [if_neg (by omega)]
    rw [e, decide_eq_true (by omega), Bool.true_and]
  rcases Int.lt_or_le B l with c1 | c1
  · rw [if_neg (by omega : ¬B - h + 1 > 1), if_neg (by omega : ¬1 > l - B), up l _ c1, show (B - l + 1 - 1).toNat = 0 by omega, show (h - B - (l - B)).toNat = (h - l).toNat by omega, cntP]
    omega
  · rcases Int.lt_or_le B h with c2 | c2
    · rw [if_neg (by omega : ¬B - h + 1 > 1), if_pos (by omega : 1 > l - B)]
      have e := cntP_add (fun b => decide (0 < dist B b) && q (dist B b)) l (B - l).toNat (1 + (h - B - 1).toNat)
      rw [show (h - l).toNat = (B - l).toNat + (1 + (h - B - 1).toNat) by omega, e, cntP_add _ _ 1, dn l _ (by omega), show l + (((B - l).toNat : Nat) : Int) = B by omega]
      rw [up (B + ((1 : Nat) : Int)) _ (by omega), show B - l - (((B - l).toNat : Nat) : Int) + 1 = 1 by omega, show (B - l + 1 - 1).toNat = (B - l).toNat by omega, show B + ((1 : Nat) : Int) - B = 1 by omega]
      have z : cntP (fun b => decide (0 < dist B b) && q (dist B b)) B 1 = 0 := cntP_none 1 fun x h1 h2 => by
        have : x = B := by omega
        subst this
        have e : dist x x = 0 := by unfold dist; rw [Int.sub_self]; rfl
        rw [e]
        rfl
      rw [z]
      omega
    · rw [dn l _ (by omega)]
      have z2 : (h - B - (if 1 > l - B then 1 else l - B)).toNat = 0 := by split <;> omega
      rw [z2, cntP]
      rcases Int.lt_or_le h B with c3 | c3
      · rw [if_pos (by omega : B - h + 1 > 1), show B - l - (((h - l).toNat : Nat) : Int) + 1 = B - h + 1 by omega, show (B - l + 1 - (B - h + 1)).toNat = (h - l).toNat by omega]
        omega
      · rw [if_neg (by omega : ¬B - h + 1 > 1), show B - l - (((h - l).toNat : Nat) : Int) + 1 = 1 by omega, show (B - l + 1 - 1).toNat = (h - l).toNat by omega]
        omega
/-- the sum, or the distance, with a shift -/
def resI (s : Int) (isum : Bool) (a b : Int) : Int := if isum then a * 2 ^ s.toNat + b * 2 ^ (-s).toNat else dist (a * 2 ^ s.toNat) (b * 2 ^ (-s).toNat)
/-- two chains part at it -/
def sP (c c' : List (Int × Ru)) (s : Int) (isum : Bool) (a b : Int) : Bool := decide (0 < resI s isum a b) && decide (DfX (chT c).1 (chT c).2 (chT c').2 1 1 (resI s isum a b))
theorem dist_comm (a b : Int) : dist a b = dist b a := by unfold dist; split <;> split <;> omega
theorem dist_nn (a b : Int) : 0 ≤ dist a b := by unfold dist; split <;> omega
theorem res_neg (s : Int) (isum : Bool) (a b : Int) : resI (-s) isum b a = resI s isum a b := by
  unfold resI
  rw [Int.neg_neg]
  cases isum
  · exact dist_comm _ _
  · exact Int.add_comm _ _
theorem sP_neg (c c' : List (Int × Ru)) (s : Int) (isum : Bool) (a b : Int) : sP c c' (-s) isum b a = sP c c' s isum a b := by
  unfold sP
  rw [res_neg]
/-- how many of a shifted operand's partners: the near ones form a range -/
theorem cnt_sums {c c' : List (Int × Ru)} {s a l : Int} {n : Nat} (hs : 0 ≤ s) (ha : 0 < a) (hl : 0 < l) : cntP (fun b => sP c c' s true a b) l n = cntX (chT c).1 (chT c).2 (chT c').2 1 1 (a * 2 ^ s.toNat + l) n := by
  rw [cntX_is]
  have p := Int.mul_pos ha (pow2_pos s.toNat)
  refine Eq.trans (cntP_congr n fun x h1 h2 => ?_) (cntP_shf (fun x => decide (DfX (chT c).1 (chT c).2 (chT c').2 1 1 x)) (a * 2 ^ s.toNat) l n)
  have e : resI s true a x = a * 2 ^ s.toNat + x := by unfold resI; rw [if_pos rfl, show (-s).toNat = 0 by omega, Int.pow_zero, Int.mul_one]
  unfold sP
  rw [e, decide_eq_true (by omega), Bool.true_and]
theorem cnt_subs {c c' : List (Int × Ru)} {s a l h : Int} (hs : 0 ≤ s) (hl : 0 < l) (lh : l ≤ h) : cntP (fun b => sP c c' s false a b) l (h - l).toNat =
    cntX (chT c).1 (chT c).2 (chT c').2 1 1 (if a * 2 ^ s.toNat - h + 1 > 1 then a * 2 ^ s.toNat - h + 1 else 1) (a * 2 ^ s.toNat - l + 1 - (if a * 2 ^ s.toNat - h + 1 > 1 then a * 2 ^ s.toNat - h + 1 else 1)).toNat +
    cntX (chT c).1 (chT c).2 (chT c').2 1 1 (if 1 > l - a * 2 ^ s.toNat then 1 else l - a * 2 ^ s.toNat) (h - a * 2 ^ s.toNat - (if 1 > l - a * 2 ^ s.toNat then 1 else l - a * 2 ^ s.toNat)).toNat := by
  rw [cntX_is, cntX_is]
  refine Eq.trans (cntP_congr _ fun x h1 h2 => ?_) (cnt_dist (B := a * 2 ^ s.toNat) (fun x => decide (DfX (chT c).1 (chT c).2 (chT c').2 1 1 x)) hl lh)
  have e : resI s false a x = dist (a * 2 ^ s.toNat) x := by unfold resI; rw [if_neg (by decide), show (-s).toNat = 0 by omega, Int.pow_zero, Int.mul_one]
  unfold sP
  rw [e]
/-- the operands that are shifted, and the others -/
def farW (s p q : Int) : Int := if 0 ≤ s then p else q
def nearW (s p q : Int) : Int := if 0 ≤ s then q else p
/-- all pairs: by the shifted ones -/
theorem cnt_far {c c' : List (Int × Ru)} {s p q : Int} {isum : Bool} : cnt2 (fun a b => sP c c' s isum a b) (lo2 q) (hi2 q - lo2 q).toNat (lo2 p) (hi2 p - lo2 p).toNat =
    cnt2 (fun f x => sP c c' (if 0 ≤ s then s else -s) isum f x) (lo2 (nearW s p q)) (hi2 (nearW s p q) - lo2 (nearW s p q)).toNat (lo2 (farW s p q)) (hi2 (farW s p q) - lo2 (farW s p q)).toNat := by
  by_cases h : 0 ≤ s
  · simp only [farW, nearW, if_pos h]
  · simp only [farW, nearW, if_neg h]
    rw [cnt2_swap]
    exact cnt2_congr _ fun a b _ _ _ _ => (sP_neg c c' s isum b a).symm
def shlD (n : Nat) : Da → Da
  | .int a => .int (a * 2 ^ n)
  | d => d
def opF (gz : Da) (w s p q : Int) : List (Str × Da) := [("gaps", gz), ("width_rounded_to", .int w), ("is_first_shifted", .bool (decide (0 ≤ s))), ("bases", .list ((rangeD (lo2 (farW s p q)) (hi2 (farW s p q) - lo2 (farW s p q)).toNat).map (shlD s.natAbs))),
  ("factor", .int (2 ^ s.natAbs)), ("least", .int (lo2 (nearW s p q))), ("stop", .int (hi2 (nearW s p q)))]
theorem lkp {α : Type} (f g : Str) (x : α) (r : List (Str × α)) : List.lookup f ((g, x) :: r) = if f = g then some x else List.lookup f r := by
  by_cases h : f = g
  · subst h
    simp [List.lookup]
  · have e : (f == g) = false := by simpa using h
    rw [if_neg h]
    simp [List.lookup, e]
section
variable {gz : Da} {w s p q : Int}
theorem op_gaps : List.lookup ("gaps" : Str) (opF gz w s p q) = some gz := by unfold opF; rw [lkp, if_pos rfl]
theorem op_width : List.lookup ("width_rounded_to" : Str) (opF gz w s p q) = some (.int w) := by unfold opF; rw [lkp, if_neg (by decide +kernel), lkp, if_pos rfl]
theorem op_first : List.lookup ("is_first_shifted" : Str) (opF gz w s p q) = some (.bool (decide (0 ≤ s))) := by unfold opF; rw [lkp, if_neg (by decide +kernel), lkp, if_neg (by decide +kernel), lkp, if_pos rfl]
theorem op_bases : List.lookup ("bases" : Str) (opF gz w s p q) = some (.list ((rangeD (lo2 (farW s p q)) (hi2 (farW s p q) - lo2 (farW s p q)).toNat).map (shlD s.natAbs))) := by unfold opF; rw [lkp, if_neg (by decide +kernel), lkp, if_neg (by decide +kernel), lkp, if_neg (by decide +kernel), lkp, if_pos rfl]
theorem op_factor : List.lookup ("factor" : Str) (opF gz w s p q) = some (.int (2 ^ s.natAbs)) := by unfold opF; rw [lkp, if_neg (by decide +kernel), lkp, if_neg (by decide +kernel), lkp, if_neg (by decide +kernel), lkp, if_neg (by decide +kernel), lkp, if_pos rfl]
theorem op_least : List.lookup ("least" : Str) (opF gz w s p q) = some (.int (lo2 (nearW s p q))) := by unfold opF; rw [lkp, if_neg (by decide +kernel), lkp, if_neg (by decide +kernel), lkp, if_neg (by decide +kernel), lkp, if_neg (by decide +kernel), lkp, if_neg (by decide +kernel), lkp, if_pos rfl]
theorem op_stop : List.lookup ("stop" : Str) (opF gz w s p q) = some (.int (hi2 (nearW s p q))) := by unfold opF; rw [lkp, if_neg (by decide +kernel), lkp, if_neg (by decide +kernel), lkp, if_neg (by decide +kernel), lkp, if_neg (by decide +kernel), lkp, if_neg (by decide +kernel), lkp, if_neg (by decide +kernel), lkp, if_pos rfl]
theorem op_no {m : Str} (h : ∀ x ∈ (["gaps", "width_rounded_to", "is_first_shifted", "bases", "factor", "least", "stop"] : List Str), m ≠ x) : List.lookup m (opF gz w s p q) = none := by
  unfold opF
  simp only [List.mem_cons, List.not_mem_nil, or_false, forall_eq_or_imp, forall_eq] at h
  obtain ⟨h1, h2, h3, h4, h5, h6, h7⟩ := h
  rw [lkp, if_neg h1, lkp, if_neg h2, lkp, if_neg h3, lkp, if_neg h4, lkp, if_neg h5, lkp, if_neg h6, lkp, if_neg h7]
  rfl
theorem op_m1 : List.lookup ("sums_with" : Str) (opF gz w s p q) = none := op_no (by decide +kernel)
theorem op_m2 : List.lookup ("subtractions_with" : Str) (opF gz w s p q) = none := op_no (by decide +kernel)
theorem op_m3 : List.lookup ("distance_ranges" : Str) (opF gz w s p q) = none := op_no (by decide +kernel)
theorem op_m4 : List.lookup ("first_sum_partner" : Str) (opF gz w s p q) = none := op_no (by decide +kernel)
theorem op_m5 : List.lookup ("first_subtraction_partner" : Str) (opF gz w s p q) = none := op_no (by decide +kernel)
theorem op_m6 : List.lookup ("first_pair" : Str) (opF gz w s p q) = none := op_no (by decide +kernel)
end
/-- what a pair of operands' object holds -/
structure OpOk (c c' : List (Int × Ru)) (s p q : Int) : Prop where
  tw : Two c c'
  p1 : 1 ≤ p
  p2 : p ≤ 12
  q1 : 1 ≤ q
  q2 : q ≤ 12
  s1 : -200 ≤ s
  s2 : s ≤ 200
theorem OpOk.near {c c' : List (Int × Ru)} {s p q : Int} (h : OpOk c c' s p q) : 1 ≤ nearW s p q ∧ nearW s p q ≤ 12 := by
  unfold nearW
  split
  · exact ⟨h.q1, h.q2⟩
  · exact ⟨h.p1, h.p2⟩
theorem OpOk.far {c c' : List (Int × Ru)} {s p q : Int} (h : OpOk c c' s p q) : 1 ≤ farW s p q ∧ farW s p q ≤ 12 := by
  unfold farW
  split
  · exact ⟨h.p1, h.p2⟩
  · exact ⟨h.q1, h.q2⟩
def opO (c c' : List (Int × Ru)) (s p q : Int) : Kd := .ins "Operands" (opF (znD (chT c).1 (chT c).2 (chT c').2) (chT c).1 s p q)
theorem two_li {c c' : List (Int × Ru)} (tw : Two c c') {st sp : Int} (s0 : 0 < st) (bs : Bn 300 st) (bt : Bn 300 sp) : LiOk (chT c).1 (chT c).2 (chT c').2 1 1 st sp := by
  obtain ⟨hT, w1, w2⟩ := chT_B tw.a.ne tw.a.w
  obtain ⟨hU, _, _⟩ := chT_B tw.b.ne tw.b.w
  exact ⟨w1, w2, hT, hU, by decide, bn1, by decide, bn1, s0, bs, bt⟩
theorem pick_43210 {α : Type} (a b c d e : α) : pick [4, 3, 2, 1, 0] [a, b, c, d, e] = [e, d, c, b, a] := rfl
theorem base_pos {w s i : Int} (w1 : 1 ≤ w) (w2 : w ≤ 12) (i0 : lo2 w ≤ i) (i1 : i < hi2 w) (s1 : -200 ≤ s) (s2 : s ≤ 200) : 0 < i * 2 ^ s.natAbs ∧ Bn 250 (i * 2 ^ s.natAbs) := by
  obtain ⟨x1, x2, x3⟩ := op2 w1 w2
  refine ⟨Int.mul_pos (by omega) (pow2_pos _), ?_⟩
  have b : Bn 13 i := ⟨by omega⟩
  exact (b.mul (Bn.pow2 (n := s.natAbs) (m := 201) (by omega))).mono (by decide)
theorem nat_abs_s (s : Int) : ((if 0 ≤ s then s else -s : Int)).toNat = s.natAbs := by split <;> omega
def dr1 (b h : Int) : Int := if b - h + 1 > 1 then b - h + 1 else 1
def dr2 (b l : Int) : Int := if 1 > l - b then 1 else l - b
def subN (c c' : List (Int × Ru)) (s p q b : Int) : Int := cntX (chT c).1 (chT c).2 (chT c').2 1 1 (dr1 b (hi2 (nearW s p q))) (b - lo2 (nearW s p q) + 1 - dr1 b (hi2 (nearW s p q))).toNat + cntX (chT c).1 (chT c).2 (chT c').2 1 1 (dr2 b (lo2 (nearW s p q))) (hi2 (nearW s p q) - b - dr2 b (lo2 (nearW s p q))).toNat
end Z

namespace Z
open L2 PySem PySem.Spec PyProof.Rows
/-! ### first pairs by rows; shifts; when shifts are great -/
theorem fst2_row_none {P : Int → Int → Prop} {a0 a1 b0 b1 : Int} {r : Option (Int × Int)} (h : Fst2 P a0 a1 b0 b1 r) (hn : ∀ b, b0 ≤ b → b < b1 → ¬P a1 b) : Fst2 P a0 (a1 + 1) b0 b1 r := by
  cases r with
  | none =>
    intro a b h1 h2 h3 h4
    by_cases e : a = a1
    · subst e; exact hn b h3 h4
    · exact h a b h1 (by omega) h3 h4
  | some p =>
    obtain ⟨h1, h2, h3, h4, h5, h6⟩ := h
    refine ⟨h1, by omega, h3, h4, h5, fun a b x1 x2 x3 x4 x5 => ?_⟩
    by_cases e : a = a1
    · subst e; exact absurd x5 (hn b x3 x4)
    · exact h6 a b x1 (by omega) x3 x4 x5
theorem fst2_row_some {P : Int → Int → Prop} {a0 a1 b0 b1 x : Int} (ha : a0 ≤ a1) (h : Fst2 P a0 a1 b0 b1 none) (x0 : b0 ≤ x) (x1 : x < b1) (hx : P a1 x) (hm : ∀ b, b0 ≤ b → b < x → ¬P a1 b) : Fst2 P a0 (a1 + 1) b0 b1 (some (a1, x)) := by
  refine ⟨ha, by show a1 < a1 + 1; omega, x0, x1, hx, fun a b y1 y2 y3 y4 y5 => ?_⟩
  show a1 < a ∨ (a1 = a ∧ x ≤ b)
  by_cases e : a = a1
  · subst e
    rcases Int.lt_or_le b x with q | q
    · exact absurd y5 (hm b y3 q)
    · omega
  · exact absurd y5 (h a b y1 (by omega) y3 y4)
theorem fst2_row_keep {P : Int → Int → Prop} {a0 a1 b0 b1 : Int} {p : Int × Int} (h : Fst2 P a0 a1 b0 b1 (some p)) : Fst2 P a0 (a1 + 1) b0 b1 (some p) := by
  obtain ⟨h1, h2, h3, h4, h5, h6⟩ := h
  refine ⟨h1, by omega, h3, h4, h5, fun a b x1 x2 x3 x4 x5 => ?_⟩
  by_cases e : a = a1
  · subst e; exact .inl h2
  · exact h6 a b x1 (by omega) x3 x4 x5
theorem fst2_congr {P Q : Int → Int → Prop} {a0 a1 b0 b1 : Int} {r : Option (Int × Int)} (e : ∀ a b, a0 ≤ a → a < a1 → b0 ≤ b → b < b1 → (P a b ↔ Q a b)) (h : Fst2 P a0 a1 b0 b1 r) : Fst2 Q a0 a1 b0 b1 r := by
  cases r with
  | none => exact fun a b h1 h2 h3 h4 => fun q => h a b h1 h2 h3 h4 ((e a b h1 h2 h3 h4).mpr q)
  | some p =>
    obtain ⟨h1, h2, h3, h4, h5, h6⟩ := h
    exact ⟨h1, h2, h3, h4, (e _ _ h1 h2 h3 h4).mp h5, fun a b x1 x2 x3 x4 x5 => h6 a b x1 x2 x3 x4 ((e a b x1 x2 x3 x4).mpr x5)⟩
/-- the order of the shifts: 0, 1, -1, 2, -2, .. -/
def shs : Nat → List Int
  | 0 => [0]
  | n + 1 => shs n ++ [((n : Int) + 1), -((n : Int) + 1)]
theorem shs_mem {z : Int} : ∀ {n : Nat}, z ∈ shs n ↔ -(n : Int) ≤ z ∧ z ≤ n
  | 0 => by
    rw [shs, List.mem_singleton]
    omega
  | n + 1 => by
    rw [shs, List.mem_append, shs_mem (n := n)]
    simp only [List.mem_cons, List.not_mem_nil, or_false]
    omega
/-- the first shift with a pair, and its first pair -/
def FstS (P : Int → Int → Int → Prop) (a0 a1 b0 b1 : Int) : List Int → Option (Int × Int × Int) → Prop
  | [], r => r = none
  | s :: ss, r => (∃ q, Fst2 (P s) a0 a1 b0 b1 (some q) ∧ r = some (s, q.1, q.2)) ∨ (Fst2 (P s) a0 a1 b0 b1 none ∧ FstS P a0 a1 b0 b1 ss r)
theorem fstS_one {P : Int → Int → Int → Prop} {a0 a1 b0 b1 : Int} : ∀ {ss : List Int} {r r' : Option (Int × Int × Int)}, FstS P a0 a1 b0 b1 ss r → FstS P a0 a1 b0 b1 ss r' → r = r'
  | [], _, _, h, h' => h.trans h'.symm
  | s :: ss, r, r', h, h' => by
    rcases h with ⟨q, h1, rfl⟩ | ⟨h1, h2⟩ <;> rcases h' with ⟨q', h1', rfl⟩ | ⟨h1', h2'⟩
    · have := fst2_one h1 h1'
      cases this
      rfl
    · have := fst2_one h1 h1'
      cases this
    · have := fst2_one h1 h1'
      cases this
    · exact fstS_one h2 h2'
/-- further shifts with no pair bring nothing -/
theorem fstS_app {P : Int → Int → Int → Prop} {a0 a1 b0 b1 : Int} : ∀ {ss tt : List Int} {r : Option (Int × Int × Int)}, FstS P a0 a1 b0 b1 ss r → (r = none → (∀ s ∈ ss, Fst2 (P s) a0 a1 b0 b1 none) → FstS P a0 a1 b0 b1 tt none) → FstS P a0 a1 b0 b1 (ss ++ tt) r
  | [], tt, r, h, k => by
    subst h
    exact k rfl fun s hs => by cases hs
  | s :: ss, tt, r, h, k => by
    rcases h with ⟨q, h1, rfl⟩ | ⟨h1, h2⟩
    · exact .inl ⟨q, h1, rfl⟩
    · exact .inr ⟨h1, fstS_app h2 fun e ha => k e fun z hz => by
        rcases List.mem_cons.mp hz with rfl | hz
        · exact h1
        · exact ha z hz⟩
theorem fstS_none {P : Int → Int → Int → Prop} {a0 a1 b0 b1 : Int} : ∀ {ss : List Int}, (∀ s ∈ ss, Fst2 (P s) a0 a1 b0 b1 none) → FstS P a0 a1 b0 b1 ss none
  | [], _ => rfl
  | s :: ss, h => .inr ⟨h s List.mem_cons_self, fstS_none fun z hz => h z (List.mem_cons_of_mem _ hz)⟩
theorem fstS_pre {P : Int → Int → Int → Prop} {a0 a1 b0 b1 : Int} {r : Option (Int × Int × Int)} : ∀ {pre tt : List Int}, (∀ s ∈ pre, Fst2 (P s) a0 a1 b0 b1 none) → FstS P a0 a1 b0 b1 tt r → FstS P a0 a1 b0 b1 (pre ++ tt) r
  | [], _, _, h => h
  | s :: pre, tt, hp, h => .inr ⟨hp s List.mem_cons_self, fstS_pre (fun z hz => hp z (List.mem_cons_of_mem _ hz)) h⟩
theorem shs_app : ∀ (n m : Nat), ∃ tt, shs (n + m) = shs n ++ tt ∧ ∀ z ∈ tt, (n : Int) < z ∨ z < -(n : Int)
  | n, 0 => ⟨[], by simp, fun z h => by cases h⟩
  | n, m + 1 => by
    obtain ⟨tt, h1, h2⟩ := shs_app n m
    refine ⟨tt ++ [(((n + m : Nat) : Int) + 1), -(((n + m : Nat) : Int) + 1)], ?_, fun z hz => ?_⟩
    · rw [← Nat.add_assoc, shs, h1, List.append_assoc]
    · rcases List.mem_append.mp hz with hz | hz
      · exact h2 z hz
      · simp only [List.mem_cons, List.not_mem_nil, or_false] at hz
        omega
/-! ### great shifts: only the greater operand's part and that there is a rest decide -/
theorem abv_rest {n d M r : Int} {up : Bool} {E j t : Nat} (hd : 0 < d) (dv : d ∣ 2 ^ t) (ht : t ≤ E) (r0 : 0 < r) (r1 : r < 2 ^ j) :
    Abv (M * 2 ^ j + r) (2 ^ (E + j)) ⟨n, d, up⟩ ↔ n * (2 ^ E / d) ≤ M := by
  have dv2 : d ∣ 2 ^ E := Int.dvd_trans dv (pow_dvd2 ht)
  obtain ⟨g, hg⟩ := dv2
  have eg : (2 : Int) ^ E / d = g := by rw [hg, Int.mul_ediv_cancel_left _ (Int.ne_of_gt hd)]
  rw [eg]
  have pj := pow2_pos j
  have ee : (2 : Int) ^ (E + j) = d * g * 2 ^ j := by rw [Int.pow_add, hg]
  unfold Abv
  dsimp only
  rw [ee]
  have key : n * (d * g * 2 ^ j) = n * g * 2 ^ j * d := by grind
  rw [key]
  have c1 : ∀ x y : Int, x * d < y * d ↔ x < y := fun x y => ⟨fun h => Int.lt_of_mul_lt_mul_right h (Int.le_of_lt hd), fun h => Int.mul_lt_mul_of_pos_right h hd⟩
  have c2 : ∀ x y : Int, x * d = y * d ↔ x = y := fun x y => ⟨fun h => Int.eq_of_mul_eq_mul_right (Int.ne_of_gt hd) h, fun h => by rw [h]⟩
  rw [c1, c2]
  generalize n * g = N
  have c3 : N ≤ M ↔ N * 2 ^ j < M * 2 ^ j + r := by
    constructor
    · intro h
      have := Int.mul_le_mul_of_nonneg_right h (Int.le_of_lt pj)
      omega
    · intro h
      rcases Int.lt_or_le M N with q | q
      · have : (M + 1) * 2 ^ j ≤ N * 2 ^ j := Int.mul_le_mul_of_nonneg_right (by omega) (Int.le_of_lt pj)
        rw [Int.add_mul, Int.one_mul] at this
        omega
      · exact q
  rw [c3]
  constructor
  · rintro (h | ⟨h, _⟩)
    · exact h
    · exfalso
      have e1 : (N - M) * 2 ^ j = r := by rw [Int.sub_mul]; omega
      rcases Int.lt_or_le (N - M) 1 with q | q
      · have : (N - M) * 2 ^ j ≤ 0 := by
          have := Int.mul_le_mul_of_nonneg_right (show N - M ≤ 0 by omega) (Int.le_of_lt pj)
          omega
        omega
      · have : 1 * 2 ^ j ≤ (N - M) * 2 ^ j := Int.mul_le_mul_of_nonneg_right q (Int.le_of_lt pj)
        omega
  · exact fun h => .inl h
/-- what a number m with a rest behind it decides -/
def DfM (w : Int) (T U : Bool → Th) (m : Int) : Prop := ¬(((T (decide (m / 2 ^ (bl m - w).toNat % 2 = 1))).n * (2 ^ (bl m - w).toNat / (T (decide (m / 2 ^ (bl m - w).toNat % 2 = 1))).d) ≤ m % 2 ^ (bl m - w).toNat) ↔
  ((U (decide (m / 2 ^ (bl m - w).toNat % 2 = 1))).n * (2 ^ (bl m - w).toNat / (U (decide (m / 2 ^ (bl m - w).toNat % 2 = 1))).d) ≤ m % 2 ^ (bl m - w).toNat))
theorem bl_rng {m : Int} (hm : 0 < m) : 2 ^ (bl m - 1).toNat ≤ m ∧ m < 2 ^ (bl m).toNat ∧ 1 ≤ bl m := by
  obtain ⟨k, h1, h2, h3⟩ := bl_pos hm
  rw [h1, show ((k : Int) + 1 - 1).toNat = k by omega, show ((k : Int) + 1).toNat = k + 1 by omega]
  exact ⟨h2, h3, by omega⟩
theorem dvd_pow2 : ∀ {n : Nat} {d : Nat}, d ∣ 2 ^ n → ∃ i, i ≤ n ∧ d = 2 ^ i
  | 0, d, h => ⟨0, Nat.le_refl _, by simpa using h⟩
  | n + 1, d, h => by
    rcases (show d % 2 = 0 ∨ d % 2 = 1 by omega) with e | e
    · obtain ⟨k, rfl⟩ : ∃ k, d = 2 * k := ⟨d / 2, by omega⟩
      rw [Nat.pow_succ, Nat.mul_comm (2 ^ n)] at h
      obtain ⟨i, h1, h2⟩ := dvd_pow2 (Nat.dvd_of_mul_dvd_mul_left (by decide) h)
      exact ⟨i + 1, by omega, by rw [h2, Nat.pow_succ, Nat.mul_comm]⟩
    · have co : Nat.Coprime d 2 := by
        unfold Nat.Coprime
        rw [Nat.gcd_comm, Nat.gcd_rec, e]; rfl
      rw [Nat.pow_succ] at h
      obtain ⟨i, h1, h2⟩ := dvd_pow2 (Nat.Coprime.dvd_of_dvd_mul_right co h)
      exact ⟨i, by omega, h2⟩
/-- a divisor of a power of two, by its width -/
theorem dvd_bits {d : Int} {n : Nat} (hd : 0 < d) (h : d ∣ 2 ^ n) {B : Int} (hB : bl d ≤ B) : d ∣ 2 ^ (B - 1).toNat := by
  obtain ⟨m, rfl⟩ : ∃ m : Nat, d = m := ⟨d.toNat, by omega⟩
  have h' : m ∣ 2 ^ n := by
    have : ((m : Nat) : Int) ∣ ((2 ^ n : Nat) : Int) := by
      rw [show ((2 ^ n : Nat) : Int) = (2 : Int) ^ n by norm_cast]
      exact h
    exact Int.natCast_dvd_natCast.mp this
  obtain ⟨i, h1, h2⟩ := dvd_pow2 h'
  obtain ⟨k, b1, b2, b3⟩ := bl_pos hd
  have em : ((m : Nat) : Int) = 2 ^ i := by rw [h2]; norm_cast
  rw [em] at b3 ⊢
  have := pow_lt_pow2 b3
  exact pow_dvd2 (by omega)
theorem dfx_rest {w m r : Int} {T U : Bool → Th} {j t : Nat} (hw : 1 ≤ w) (hm : 0 < m) (hb : w + t ≤ bl m) (hT : ThB 101 T) (hU : ThB 101 U) (dT : ∀ b, (w = 1 → b = true) → (T b).d ∣ 2 ^ t) (dU : ∀ b, (w = 1 → b = true) → (U b).d ∣ 2 ^ t) (r0 : 0 < r) (r1 : r < 2 ^ j) :
    DfX w T U 1 1 (m * 2 ^ j + r) ↔ DfM w T U m := by
  obtain ⟨b1, b2, b3⟩ := bl_rng hm
  generalize hE : (bl m - w).toNat = E
  have hEt : t ≤ E := by omega
  have pj := pow2_pos j
  have pE := pow2_pos E
  have x0 : 0 < m * 2 ^ j + r := by have := Int.mul_pos hm pj; omega
  have ex : (m * 2 ^ j + r) * 1 = m * 2 ^ j + r := Int.mul_one _
  have dq : (m * 2 ^ j + r) * 2 ^ 0 / (1 * 2 ^ (E + j)) = m / 2 ^ E := by
    rw [Int.pow_zero, Int.mul_one, Int.one_mul, Int.pow_add, Int.mul_comm (2 ^ E), ← Int.ediv_ediv_of_nonneg (Int.le_of_lt pj), Int.add_comm, Int.add_mul_ediv_right _ _ (Int.ne_of_gt pj), Int.ediv_eq_zero_of_lt (Int.le_of_lt r0) r1, Int.zero_add]
  have md : (m * 2 ^ j + r) * 2 ^ 0 % (1 * 2 ^ (E + j)) = m % 2 ^ E * 2 ^ j + r := by
    have h := Int.emod_add_mul_ediv ((m * 2 ^ j + r) * 2 ^ 0) (1 * 2 ^ (E + j))
    rw [dq] at h
    have h2 := Int.emod_add_mul_ediv m (2 ^ E)
    rw [Int.pow_zero, Int.mul_one, Int.one_mul] at h ⊢
    have ee : (2 : Int) ^ (E + j) = 2 ^ E * 2 ^ j := Int.pow_add ..
    rw [ee] at h ⊢
    grind
  have k1 : 2 ^ (w - 1).toNat ≤ m / 2 ^ E := by
    refine (Int.le_ediv_iff_mul_le pE).mpr ?_
    rw [← Int.pow_add, show (w - 1).toNat + E = (bl m - 1).toNat by omega]
    exact b1
  have k2 : m / 2 ^ E < 2 ^ w.toNat := by
    refine (Int.ediv_lt_iff_lt_mul pE).mpr ?_
    rw [← Int.pow_add, show w.toNat + E = (bl m).toNat by omega]
    exact b2
  obtain ⟨c1, c2⟩ := cell_at (n := m * 2 ^ j + r) (d := 1) (p := E + j) (q := 0) x0 (by decide) hw (by rw [dq]; exact k1) (by rw [dq]; exact k2)
  unfold DfX DfM
  rw [ex, c1, c2, dq, hE, md, dif_low (by rw [Int.one_mul]; exact pow2_pos _), Int.one_mul]
  have hb1 : w = 1 → decide (m / 2 ^ E % 2 = 1) = true := fun e => by
    subst e
    have k1 : (1 : Int) ≤ m / 2 ^ E := k1
    have k2 : m / 2 ^ E < 2 := k2
    exact decide_eq_true (by omega)
  generalize decide (m / 2 ^ E % 2 = 1) = b at hb1 ⊢
  unfold Dif
  rw [abv_rest (hT.ok b).d0 (dT b hb1) hEt r0 r1, abv_rest (hU.ok b).d0 (dU b hb1) hEt r0 r1]
/-- from some shift on nothing changes -/
theorem sP_sat {c c' : List (Int × Ru)} {s a b : Int} {q t : Nat} {u : Bool} (tw : Two c c') (dT : ∀ b, ((chT c).1 = 1 → b = true) → ((chT c).2 b).d ∣ 2 ^ t) (dU : ∀ b, ((chT c).1 = 1 → b = true) → ((chT c').2 b).d ∣ 2 ^ t)
    (ha : 0 < a) (b0 : 0 < b) (b1 : b < 2 ^ q) (hs : (q : Int) + (chT c).1 + t ≤ s) : sP c c' (s + 1) u a b = sP c c' s u a b := by
  obtain ⟨hT, w1, w2⟩ := chT_B tw.a.ne tw.a.w
  obtain ⟨hU, _, _⟩ := chT_B tw.b.ne tw.b.w
  have pq := pow2_pos q
  obtain ⟨n, hn⟩ : ∃ n : Nat, s = (q : Int) + n := ⟨(s - q).toNat, by omega⟩
  have e1 : (2 : Int) ^ s.toNat = 2 ^ n * 2 ^ q := by rw [← Int.pow_add, show s.toNat = n + q by omega]
  have e2 : (2 : Int) ^ (s + 1).toNat = 2 ^ n * 2 ^ (q + 1) := by rw [← Int.pow_add, show (s + 1).toNat = n + (q + 1) by omega]
  have ep : (2 : Int) ^ (q + 1) = 2 * 2 ^ q := by rw [Int.pow_succ, Int.mul_comm]
  have z1 : (-s).toNat = 0 := by omega
  have z2 : (-(s + 1)).toNat = 0 := by omega
  have hM : 2 ^ ((chT c).1.toNat + t) ≤ a * 2 ^ n := by
    have h1 : (2 : Int) ^ ((chT c).1.toNat + t) ≤ 2 ^ n := pow_le2 (by omega)
    have h2 : 1 * 2 ^ n ≤ a * 2 ^ n := Int.mul_le_mul_of_nonneg_right (by omega) (Int.le_of_lt (pow2_pos n))
    omega
  have em : ∀ x : Int, a * (2 ^ n * x) = a * 2 ^ n * x := fun x => (Int.mul_assoc ..).symm
  unfold sP resI
  rw [z1, z2, Int.pow_zero, Int.mul_one, e1, e2, em, em]
  generalize hA : a * 2 ^ n = A at *
  have pw : (2 : Int) ^ ((chT c).1.toNat + t) = 2 * 2 ^ ((chT c).1.toNat + t - 1) := by
    rw [show (chT c).1.toNat + t = ((chT c).1.toNat + t - 1) + 1 by omega, Int.pow_succ, Int.mul_comm]
    rfl
  have pp := pow2_pos ((chT c).1.toNat + t - 1)
  have A2 : 2 ≤ A := by omega
  have big : ∀ m : Int, 2 ^ ((chT c).1.toNat + t - 1) ≤ m → (chT c).1 + t ≤ bl m := fun m hm => by
    obtain ⟨_, h2, h3⟩ := bl_rng (show 0 < m by omega)
    have := pow_lt_pow2 (Int.lt_of_le_of_lt hm h2)
    omega
  have x1 : A * 2 ^ q ≥ 2 * 2 ^ q := Int.mul_le_mul_of_nonneg_right A2 (Int.le_of_lt pq)
  have x2 : A * 2 ^ (q + 1) ≥ 2 * 2 ^ (q + 1) := Int.mul_le_mul_of_nonneg_right A2 (Int.le_of_lt (pow2_pos _))
  cases u with
  | true =>
    simp only [if_true]
    rw [decide_eq_true (by omega : 0 < A * 2 ^ (q + 1) + b), decide_eq_true (by omega : 0 < A * 2 ^ q + b), decide_eq_decide.mpr]
    rw [dfx_rest w1 (by omega) (big A (by omega)) hT hU dT dU b0 (by omega), dfx_rest w1 (by omega) (big A (by omega)) hT hU dT dU b0 b1]
  | false =>
    simp only [Bool.false_eq_true, if_false]
    unfold dist
    rw [if_neg (by omega), if_neg (by omega)]
    have f1 : A * 2 ^ q - b = (A - 1) * 2 ^ q + (2 ^ q - b) := by rw [Int.sub_mul]; omega
    have f2 : A * 2 ^ (q + 1) - b = (A - 1) * 2 ^ (q + 1) + (2 ^ (q + 1) - b) := by rw [Int.sub_mul]; omega
    rw [decide_eq_true (by omega : 0 < A * 2 ^ (q + 1) - b), decide_eq_true (by omega : 0 < A * 2 ^ q - b), f1, f2, decide_eq_decide.mpr]
    rw [dfx_rest w1 (by omega) (big (A - 1) (by omega)) hT hU dT dU (by omega) (by omega), dfx_rest w1 (by omega) (big (A - 1) (by omega)) hT hU dT dU (by omega) (by omega)]
structure Lns (c c' : List (Int × Ru)) (p q : Int) (B : Int) : Prop where
  lo : p + q + (chT c).1 + 5 ≤ B
  dT : ∀ b, ((chT c).1 = 1 → b = true) → ((chT c).2 b).d ∣ 2 ^ (B - p - q - (chT c).1 - 5).toNat
  dU : ∀ b, ((chT c).1 = 1 → b = true) → ((chT c').2 b).d ∣ 2 ^ (B - p - q - (chT c).1 - 5).toNat
  hi : ∀ m : Nat, (∀ b, ((chT c).2 b).d ∣ 2 ^ m) → (∀ b, ((chT c').2 b).d ∣ 2 ^ m) → B ≤ p + q + (chT c).1 + m + 5
theorem bl_dvd {d : Int} {m : Nat} (hd : 0 < d) (h : d ∣ 2 ^ m) : bl d ≤ m + 1 := by
  obtain ⟨k, h1, h2, _⟩ := bl_pos hd
  have : d ≤ 2 ^ m := Int.le_of_dvd (pow2_pos m) h
  have : (2 : Int) ^ k < 2 ^ (m + 1) := by
    have e : (2 : Int) ^ (m + 1) = 2 * 2 ^ m := by rw [Int.pow_succ, Int.mul_comm]
    have := pow2_pos m
    omega
  have := pow_lt_pow2 this
  omega
theorem chT_dv1 {c : List (Int × Ru)} (hc : Chn1 c) : ThDv 200 (chT c).2 := by
  have h := chT_dv (W := 100) hc.ne hc.w fun s hs => (hc.w s hs).2
  obtain ⟨_, w1, _⟩ := chT_B hc.ne hc.w
  exact fun b => Int.dvd_trans (h b) (pow_dvd2 (by omega))
theorem sP_far {c c' : List (Int × Ru)} {p q B a b : Int} {u : Bool} (tw : Two c c') (p1 : 1 ≤ p) (q1 : 1 ≤ q) (lB : Lns c c' p q B) (a0 : lo2 p ≤ a) (b0 : lo2 q ≤ b) (b1 : b < hi2 q) : ∀ m : Nat, sP c c' (B + m) u a b = sP c c' B u a b
  | 0 => by rw [show B + ((0 : Nat) : Int) = B by omega]
  | m + 1 => by
    have x1 : 0 < lo2 p := pow2_pos _
    have x2 : 0 < lo2 q := pow2_pos _
    have lo := lB.lo
    rw [show B + ((m + 1 : Nat) : Int) = B + m + 1 by omega, sP_sat (q := q.toNat) tw lB.dT lB.dU (by omega) (by omega) b1 (by omega), sP_far tw p1 q1 lB a0 b0 b1 m]
theorem sP_farN {c c' : List (Int × Ru)} {p q B a b : Int} {u : Bool} (tw : Two c c') (p1 : 1 ≤ p) (q1 : 1 ≤ q) (lB : Lns c c' p q B) (a0 : lo2 p ≤ a) (a1 : a < hi2 p) (b0 : lo2 q ≤ b) : ∀ m : Nat, sP c c' (-(B + m)) u a b = sP c c' (-B) u a b := fun m => by
  have x1 : 0 < lo2 p := pow2_pos _
  have x2 : 0 < lo2 q := pow2_pos _
  have lo := lB.lo
  rw [sP_neg c c' (B + m) u b a, sP_neg c c' B u b a]
  induction m with
  | zero => rw [show B + ((0 : Nat) : Int) = B by omega]
  | succ m ih => rw [show B + ((m + 1 : Nat) : Int) = B + m + 1 by omega, sP_sat (q := p.toNat) tw lB.dT lB.dU (by omega) (by omega) a1 (by omega), ih]
theorem sat_none {c c' : List (Int × Ru)} {p q B s : Int} {u : Bool} (tw : Two c c') (p1 : 1 ≤ p) (q1 : 1 ≤ q) (lB : Lns c c' p q B) (h1 : Fst2 (fun a b => sP c c' B u a b = true) (lo2 p) (hi2 p) (lo2 q) (hi2 q) none) (h2 : Fst2 (fun a b => sP c c' (-B) u a b = true) (lo2 p) (hi2 p) (lo2 q) (hi2 q) none) (hs : B ≤ s ∨ s ≤ -B) :
    Fst2 (fun a b => sP c c' s u a b = true) (lo2 p) (hi2 p) (lo2 q) (hi2 q) none := fun a b x1 x2 x3 x4 z => by
  have z : sP c c' s u a b = true := z
  rcases hs with hs | hs
  · have := sP_far (u := u) tw p1 q1 lB x1 x3 x4 (s - B).toNat
    rw [show B + (((s - B).toNat : Nat) : Int) = s by omega] at this
    rw [this] at z
    exact h1 a b x1 x2 x3 x4 z
  · have := sP_farN (u := u) tw p1 q1 lB x1 x2 x3 (-s - B).toNat
    rw [show -(B + (((-s - B).toNat : Nat) : Int)) = s by omega] at this
    rw [this] at z
    exact h2 a b x1 x2 x3 x4 z
/-- the first of all shifts is the first of so many, where so many are enough -/
theorem fst_due {c c' : List (Int × Ru)} {p q B : Int} {u : Bool} {N : Nat} {r r' : Option (Int × Int × Int)} (tw : Two c c') (p1 : 1 ≤ p) (q1 : 1 ≤ q) (lB : Lns c c' p q B) (hN : B ≤ N)
    (h : FstS (fun s a b => sP c c' s u a b = true) (lo2 p) (hi2 p) (lo2 q) (hi2 q) (shs B.toNat) r) (h' : FstS (fun s a b => sP c c' s u a b = true) (lo2 p) (hi2 p) (lo2 q) (hi2 q) (shs N) r') : r = r' := by
  obtain ⟨_, w1, _⟩ := chT_B tw.a.ne tw.a.w
  have lo := lB.lo
  obtain ⟨tt, e, ht⟩ := shs_app B.toNat (N - B.toNat)
  rw [show B.toNat + (N - B.toNat) = N by omega] at e
  rw [e] at h'
  refine fstS_one (fstS_app h fun _ ha => fstS_none fun s hs => ?_) h'
  have hz := ht s hs
  exact sat_none tw p1 q1 lB (ha B (shs_mem.mpr (by omega))) (ha (-B) (shs_mem.mpr (by omega))) (by omega)
theorem two_eq {c c' : List (Int × Ru)} {p q B : Int} {u : Bool} {ss : List Int} (h : ∀ s a b, sP c c' s u a b = false) : FstS (fun s a b => sP c c' s u a b = true) (lo2 p) (hi2 p) (lo2 q) (hi2 q) ss none :=
  fstS_none fun s _ a b _ _ _ _ z => by
    have z : sP c c' s u a b = true := z
    rw [h] at z
    cases z
end Z

namespace Z
open L2 PySem PySem.Spec PyProof.Rows
open Evl (Ex ex_l ex_t ex_rd fresh_back)
/-! ### an __init__ that reads its own fields and calls its own methods -/
def plainS : Option Sv → Bool
  | none => true
  | some (.val _) => true
  | _ => false
section
variable {K : Fg} {F F' : Hp}
theorem rd_off (e : ∀ b o, (∀ C dx us, o ≠ .ins C dx us) → F b = some o → F' b = some o) {a : Addr} {u : HO} (hu : ∀ C dx us, u ≠ .ins C dx us) (h : Rd F a u) : Rd F' a u := by
  rcases h with h | ⟨o, h⟩
  · exact .inl (e a _ hu h)
  · exact .inr ⟨o, e a _ (fun _ _ _ z => by cases z) h⟩
mutual
theorem Rp.off (e : ∀ b o, (∀ C dx us, o ≠ .ins C dx us) → F b = some o → F' b = some o) : ∀ (d : Da) (v : V), Rp K F v d → Rp K F' v d
  | .none, _, h => by cases h; exact .non
  | .bool b, _, h => by cases h; exact .bl b
  | .int i, _, h => by cases h; exact .int i
  | .str x, _, h => by cases h; exact .str x
  | .list ds, _, h => by cases h with | lst hs ha => exact .lst (e _ _ (fun _ _ _ z => by cases z) hs) (Rps.off e ds _ ha)
  | .tuple ds, _, h => by cases h with | tup hs ha => exact .tup (hs.imp (rd_off e fun _ _ _ z => by cases z) id) (Rps.off e ds _ ha)
  | .dict es, _, h => by cases h with | dct hs ha => exact .dct (rd_off e (fun _ _ _ z => by cases z) hs) (RpK.off e es _ ha)
theorem Rps.off (e : ∀ b o, (∀ C dx us, o ≠ .ins C dx us) → F b = some o → F' b = some o) : ∀ (ds : List Da) (vs : List V), Rps K F vs ds → Rps K F' vs ds
  | [], _, h => by cases h; exact .nil
  | d :: ds, _, h => by cases h with | cons h1 h2 => exact .cons (Rp.off e d _ h1) (Rps.off e ds _ h2)
theorem RpK.off (e : ∀ b o, (∀ C dx us, o ≠ .ins C dx us) → F b = some o → F' b = some o) : ∀ (ds : List (Da × Da)) (vs : List (Key × V)), RpK K F vs ds → RpK K F' vs ds
  | [], _, h => by cases h; exact .nil
  | (_, d) :: ds, _, h => by cases h with | cons h1 h2 => exact .cons (Rp.off e d _ h1) (RpK.off e ds _ h2)
end
end
structure StJ (K : Fg) (nm : Str) (p C dx : Addr) (F0 H0 : Hp) (g : Gs) (σ : L2.St) (H F : Hp) (a : Addr) (us : List (Str × V)) (fs : List (Str × Da)) : Prop where
  st : Sta K ⟨F, H, none⟩ g σ H [] [] F a
  fu : g.fu = none
  sl0 : g.sl[0]? = some (some (.ob (.insAt p nm fs)))
  pl : g.sl.tail.all plainS = true
  nsC : PySem.W.nsIn K mainGlobals nm = some (some (.ref C))
  ins : F p = some (.ins C dx us)
  fp : F0 p = none
  nm : us.map Prod.fst = fs.map Prod.fst
  rp : Rps K F (us.map Prod.snd) (fs.map Prod.snd)
  e0 : Ex F0 F
  kp : ∀ b o, b ≠ p → H0 b = some o → H b = some o
  nw : ∀ b, b ≠ p → F b ≠ none → F0 b ≠ none ∨ H0 b = none
abbrev DSJ := (Gs → Prop) → Gs → Prop
def upJ (K : Fg) (nm : Str) (C : Addr) (t : DSJ) : TS := fun D σ H => ∃ (p dx : Addr) (F0 H0 : Hp) (g : Gs) (F : Hp) (a : Addr) (us : List (Str × V)) (fs : List (Str × Da)) (N : Gs → Prop),
  StJ K nm p C dx F0 H0 g σ H F a us fs ∧ t N g ∧ ∀ g' σ' H' F' a' us' fs', N g' → StJ K nm p C dx F0 H0 g' σ' H' F' a' us' fs' → D.nx σ' H'
/-- the new instance is as it was, nothing is own -/
def okJ (g g' : Gs) : Prop := g'.fu = none ∧ g'.sl[0]? = g.sl[0]? ∧ g'.sl.tail.all plainS = true
/-- any statement that leaves the fields alone -/
def jSt (t : DS) : DSJ := fun N g => t ⟨fun g' => okJ g g' ∧ N g', fun _ _ => False, fun _ => False, fun _ => False⟩ g
def jSeq (t u : DSJ) : DSJ := fun N g => t (fun g' => u N g') g
def putD (f : Str) (d : Da) : List (Str × Da) → List (Str × Da)
  | [] => [(f, d)]
  | (n, x) :: r => if n = f then (n, d) :: r else (n, x) :: putD f d r
/-- self.f = e -/
def jFld (f : Str) (te : DE) : DSJ := fun N g => te g fun r g' => okJ g g' ∧ match r, g'.sl[0]? with
  | .val d, some (some (Sv.ob (Kd.insAt p n fs))) => fs.length < 900 ∧ N (g'.set 0 (.ob (.insAt p n (putD f d fs))))
  | _, _ => False
/-- self.f += e -/
def jAug (f : Str) (te : DE) : DSJ := fun N g => match g.sl[0]? with
  | some (some (Sv.ob (Kd.insAt p n fs))) => (match fs.lookup f with
    | some (.int x) => fs.length < 900 ∧ te g fun r g' => okJ g g' ∧ match r with
      | .val (.int y) => N (g'.set 0 (.ob (.insAt p n (putD f (.int (x + y)) fs))))
      | _ => False
    | _ => False)
  | _ => False
def jWhile (c : DT) (tb : DSJ) : DSJ := fun N g => ∃ W : Nat → Gs → Prop, (∃ m, W m g) ∧ ∀ m g1, W m g1 → c g1 fun b g2 => okJ g1 g2 ∧ (b = true → tb (fun g3 => ∃ m', m' < m ∧ W m' g3) g2) ∧ (b = false → N g2)
theorem put_len {f : Str} {v : V} : ∀ {us : List (Str × V)}, (putF f v us).length ≤ us.length + 1
  | [] => Nat.le_refl _
  | (n, x) :: r => by
    unfold putF
    split
    · simp
    · rw [List.length_cons, List.length_cons]
      have := put_len (f := f) (v := v) (us := r)
      omega
theorem put_rel {K : Fg} {F : Hp} {f : Str} {v : V} {d : Da} (rv : Rp K F v d) : ∀ {us : List (Str × V)} {fs : List (Str × Da)}, us.map Prod.fst = fs.map Prod.fst → Rps K F (us.map Prod.snd) (fs.map Prod.snd) →
    (putF f v us).map Prod.fst = (putD f d fs).map Prod.fst ∧ Rps K F ((putF f v us).map Prod.snd) ((putD f d fs).map Prod.snd)
  | [], [], _, _ => ⟨rfl, .cons rv .nil⟩
  | [], _ :: _, h, _ => by cases h
  | _ :: _, [], h, _ => by cases h
  | (n, x) :: us, (n', y) :: fs, h, hr => by
    rw [List.map_cons, List.map_cons] at h hr
    injection h with h1 h2
    have h1 : n = n' := h1
    subst h1
    cases hr with
    | cons r1 r2 =>
      obtain ⟨e1, e2⟩ := put_rel rv h2 r2
      unfold putF putD
      by_cases e : n = f
      · rw [if_pos e, if_pos e]
        exact ⟨by rw [List.map_cons, List.map_cons, h2], .cons rv r2⟩
      · rw [if_neg e, if_neg e]
        exact ⟨by rw [List.map_cons, List.map_cons, e1], .cons r1 e2⟩
section
variable {K : Fg} {nm : Str} {p C dx : Addr} {F0 H0 : Hp} {g g' : Gs} {σ σ' : L2.St} {H F H' F' : Hp} {a a' : Addr} {us : List (Str × V)} {fs : List (Str × Da)}
theorem no_ownJ {k : Kd} (h0 : g.sl[0]? = some (some (.ob k))) (ht : g.sl.tail.all plainS = true) {i : Nat} {ds : List Da} : g.sl[i]? ≠ some (some (.own ds)) := fun z => by
  cases i with
  | zero => rw [h0] at z; cases z
  | succ i =>
    have h1 : g.sl.tail[i]? = some (some (.own ds)) := by rw [List.getElem?_tail]; exact z
    have := List.all_eq_true.mp ht _ (List.mem_of_getElem? h1)
    cases this
theorem StJ.next (t : StJ K nm p C dx F0 H0 g σ H F a us fs) (s : Sta K ⟨F, H, none⟩ g' σ' H' [] [] F' a') (ok : okJ g g') : StJ K nm p C dx F0 H0 g' σ' H' F' a' us fs := by
  obtain ⟨fu, o0, pl⟩ := ok
  have sl0 : g'.sl[0]? = some (some (.ob (.insAt p nm fs))) := o0.trans t.sl0
  have kp : ∀ b o, H b = some o → H' b = some o := fun b o h => s.keep b o (fun z => by cases z) h
  refine ⟨⟨Ex.refl _, s.eh, fun b o _ h => h, fun b h => .inl h, fun b h => (by cases h), fun _ => rfl, fun n h => (by rw [fu] at h; cases h), s.tmp, s.len, fun i sv h => ?_, s.dis⟩, fu, sl0, pl, t.nsC, s.e0 _ _ t.ins, t.fp, t.nm, t.rp.up s.e0, t.e0.trans s.e0, fun b o n h => kp b o (t.kp b o n h), fun b n h => ?_⟩
  · obtain ⟨v, h1, h2⟩ := s.slot i sv h
    refine ⟨v, h1, ?_⟩
    cases sv with
    | own ds => exact absurd h (no_ownJ sl0 pl)
    | _ => exact h2
  · rcases s.new b h with z | z
    · exact t.nw b n z
    · refine .inr ?_
      cases w : H0 b with
      | none => rfl
      | some o =>
        have z : H b = none := z
        rw [t.kp b o n w] at z
        cases z
theorem StJ.put (t : StJ K nm p C dx F0 H0 g σ H F a us fs) {f : Str} {v : V} {d : Da} (rv : Rp K F v d) :
    StJ K nm p C dx F0 H0 (g.set 0 (.ob (.insAt p nm (putD f d fs)))) σ (upd H p (.ins C dx (putF f v us))) (upd F p (.ins C dx (putF f v us))) a (putF f v us) (putD f d fs) := by
  obtain ⟨r1, r2⟩ := put_rel (f := f) rv t.nm t.rp
  have off : ∀ b o, (∀ C dx us, o ≠ HO.ins C dx us) → F b = some o → (upd F p (.ins C dx (putF f v us))) b = some o := fun b o n h => by
    rw [upd_ne fun z => by subst z; rw [t.ins] at h; cases h; exact n _ _ _ rfl]
    exact h
  have r3 := Rps.off (K := K) off _ _ r2
  have l0 : 0 < g.sl.length := by
    have := t.sl0
    rcases Nat.eq_zero_or_pos g.sl.length with z | z
    · rw [List.getElem?_eq_none (by omega)] at this; cases this
    · exact z
  have sl0 : (g.set 0 (.ob (.insAt p nm (putD f d fs)))).sl[0]? = some (some (.ob (.insAt p nm (putD f d fs)))) := by
    show (g.sl.set 0 _)[0]? = _
    rw [List.getElem?_set_self l0]
  have pl : (g.set 0 (.ob (.insAt p nm (putD f d fs)))).sl.tail.all plainS = true := by
    show (g.sl.set 0 _).tail.all plainS = true
    have := t.pl
    cases h : g.sl with
    | nil => rfl
    | cons x xs => rw [h] at this; exact this
  obtain ⟨v0, w1, w2⟩ := t.st.slot 0 _ t.sl0
  refine ⟨⟨Ex.refl _, fun b o h => ?_, fun b o _ h => h, fun b h => .inl h, fun b h => (by cases h), fun _ => rfl, fun n h => (by rw [show (g.set 0 (.ob (.insAt p nm (putD f d fs)))).fu = g.fu from rfl, t.fu] at h; cases h), .nil, ?_, fun i sv h => ?_, fun i j ds es _ h => absurd h (no_ownJ sl0 pl)⟩, t.fu, sl0, pl, t.nsC, upd_same, t.fp, r1, r3, fun b o h => ?_, fun b o n h => ?_, fun b n h => ?_⟩
  · by_cases e : b = p
    · subst e; rw [upd_same] at h ⊢; exact h
    · rw [upd_ne e] at h ⊢; exact t.st.eh b o h
  · show σ.length = (g.sl.set 0 _).length
    rw [List.length_set]; exact t.st.len
  · cases i with
    | zero =>
      rw [sl0] at h
      cases h
      refine ⟨v0, w1, ?_⟩
      obtain ⟨_, _, _, e1, _⟩ := w2
      exact ⟨C, dx, _, e1, t.nsC, upd_same, r1, r3⟩
    | succ i =>
      have h' : g.sl[i + 1]? = some (some sv) := by
        rw [← h]
        show _ = (g.sl.set 0 _)[i + 1]?
        rw [List.getElem?_set_ne (by omega)]
      obtain ⟨v, q1, q2⟩ := t.st.slot (i + 1) sv h'
      refine ⟨v, q1, ?_⟩
      have pp : plainS (some sv) = true := List.all_eq_true.mp t.pl _ (List.mem_of_getElem? (i := i) (by rw [List.getElem?_tail]; exact h'))
      cases sv with
      | val d => exact Rp.off off d v q2
      | _ => cases pp
  · rw [upd_ne fun z => by subst z; rw [t.fp] at h; cases h]
    exact t.e0 b o h
  · rw [upd_ne n]; exact t.kp b o n h
  · rw [upd_ne n] at h; exact t.nw b n h
end
section
variable {X : Cx} {C : Addr} {nm : Str} {e : Expr} {te : DE} {ct : DT} {f : Str} {pos p1 p2 : Pos} {st : Stmt} {rest body : List Stmt} {t u tb : DSJ} {ts : DS}
theorem j_st (h : PS X st (upS X.K ts)) : PS X st (upJ X.K nm C (jSt ts)) := ps_to h fun D σ H q => by
  obtain ⟨p, dx, F0, H0, g, F, a, us, fs, N, s, t, k⟩ := q
  exact ⟨_, g, [], [], F, a, _, s.st, rfl, t, ⟨fun g1 σ1 H1 F1 a1 h1 s1 => k g1 σ1 H1 F1 a1 us fs h1.2 (s.next s1 h1.1), fun _ _ _ _ _ h => h.elim, fun _ _ _ _ _ h => h.elim, fun _ _ _ _ _ _ _ h => h.elim, fun _ _ _ _ _ _ _ h => h.elim⟩⟩
theorem js_one (h : PS X st (upJ X.K nm C t)) : PSs X [st] (upJ X.K nm C t) := pss_one h
theorem js_cons (h1 : PS X st (upJ X.K nm C t)) (h2 : PSs X rest (upJ X.K nm C u)) : PSs X (st :: rest) (upJ X.K nm C (jSeq t u)) := pss_to (pss_cons h1 h2) fun D σ H q => by
  obtain ⟨p, dx, F0, H0, g, F, a, us, fs, N, s, t, k⟩ := q
  exact ⟨p, dx, F0, H0, g, F, a, us, fs, _, s, t, fun g1 σ1 H1 F1 a1 us1 fs1 h1 s1 => ⟨p, dx, F0, H0, g1, F1, a1, us1, fs1, N, s1, h1, k⟩⟩
theorem j_fld (cl : Cls X.K C) (na : NoAttr X.K C f) (he : PE X e (up X.K te)) (hself : PE X (.Name "self" p1) (tVar 0)) (hs : swapsWith e (some (.Attribute (.Name "self" p1) f p2)) pos.line X.env = pure false := by rfl) : PS X (.Assign [.Attribute (.Name "self" p1) f p2] e pos) (upJ X.K nm C (jFld f te)) := ps_to (ps_fld hself he hs) fun D σ H q => by
  obtain ⟨p, dx, F0, H0, g, F, a, us, fs, N, s, t, k⟩ := q
  refine ⟨_, g, [], [], F, a, _, s.st, t, fun r g1 v H1 F1 a1 t1 s1 => ?_⟩
  obtain ⟨ok, t1⟩ := t1
  have n := s.next s1.pop1 ok
  rw [n.sl0] at t1
  cases r with
  | val d =>
    obtain ⟨hl, hN⟩ := t1
    have rv : Rp X.K F1 v d := s1.top
    obtain ⟨w, w1, w2⟩ := n.st.slot 0 _ n.sl0
    obtain ⟨_, _, _, e1, _⟩ := w2
    subst e1
    have lu : us.length = fs.length := by
      have := congrArg List.length n.nm
      simpa using this
    exact ⟨.ref p, w1, p, C, dx, us, rfl, n.st.eh _ _ n.ins, cl, na, by omega, k _ σ _ _ _ _ _ hN (n.put rv)⟩
  | _ => exact t1.elim
theorem j_aug (cl : Cls X.K C) (na : NoAttr X.K C f) (he : PE X e (up X.K te)) (hself : PE X (.Name "self" p1) (tVar 0)) : PS X (.AugAssign (.Attribute (.Name "self" p1) f p2) .Add e pos) (upJ X.K nm C (jAug f te)) := ps_to (ps_fldaug hself he in_add) fun D σ H q => by
  obtain ⟨p, dx, F0, H0, g, F, a, us, fs, N, s, t, k⟩ := q
  unfold jAug at t
  rw [s.sl0] at t
  dsimp only at t
  split at t
  · rename_i x hx
    obtain ⟨hl, t⟩ := t
    obtain ⟨w, w1, w2⟩ := s.st.slot 0 _ s.sl0
    obtain ⟨_, _, _, e1, _⟩ := w2
    subst e1
    obtain ⟨v0, h1, h2⟩ := (lookup_by (f := f) s.nm fun i x y a b => Rps.at s.rp i x y a b).1 _ hx
    cases h2
    have lu : us.length = fs.length := by
      have := congrArg List.length s.nm
      simpa using this
    refine ⟨.ref p, w1, p, C, dx, us, .int x, rfl, s.st.eh _ _ s.ins, cl, na, h1, _, g, [], [], F, a, _, s.st, t, fun r g1 v H1 F1 a1 t1 s1 => ?_⟩
    obtain ⟨ok, t1⟩ := t1
    have n := s.next s1.pop1 ok
    split at t1
    · rename_i y
      have rv : Rp X.K F1 v (.int y) := s1.top
      cases rv
      exact ⟨x, y, rfl, rfl, dx, us, n.st.eh _ _ n.ins, by omega, k _ σ _ _ _ _ _ t1 (n.put (.int (x + y)))⟩
    · exact t1.elim
  · exact t.elim
theorem j_while {c : Expr} (hp : PassesOwn (model X.prog X.w) X.A X.env X.xe) (hc : PT X c (upT X.K ct)) (hb : PSs X body (upJ X.K nm C tb)) : PS X (.While c body [] pos) (upJ X.K nm C (jWhile ct tb)) := ps_to (ps_while hp hc hb) fun D σ H q => by
  obtain ⟨p, dx, F0, H0, g, F, a, us, fs, N, s, ⟨W, ⟨m, hm⟩, hw⟩, k⟩ := q
  refine ⟨fun m σ H => ∃ g F a us fs, StJ X.K nm p C dx F0 H0 g σ H F a us fs ∧ W m g, ⟨m, g, F, a, us, fs, s, hm⟩, fun m σ H hW => ?_⟩
  obtain ⟨g, F, a, us, fs, s, hm⟩ := hW
  refine ⟨_, g, [], [], F, a, _, s.st, hw m g hm, fun b g1 H1 F1 a1 t1 s1 => ?_⟩
  obtain ⟨ok, t2, t3⟩ := t1
  have n := s.next s1 ok
  cases b with
  | true =>
    rw [if_pos rfl]
    exact ⟨fun σ H => ∃ m', m' < m ∧ ∃ g F a us fs, StJ X.K nm p C dx F0 H0 g σ H F a us fs ∧ W m' g, fun σ' H' ⟨m', h1, g, F, a, us, fs, h2⟩ => ⟨m', h1, g, F, a, us, fs, h2⟩, p, dx, F0, H0, g1, F1, a1, us, fs, _, n, t2 rfl, fun g2 σ2 H2 F2 a2 us2 fs2 ⟨m', h1, h2⟩ s2 => ⟨m', h1, g2, F2, a2, us2, fs2, s2, h2⟩⟩
  | false =>
    rw [if_neg Bool.false_ne_true]
    exact k g1 σ H1 F1 a1 us fs (t3 rfl) n
end
section
variable {P : Program} {w : World} {K : Fg} {mg : Str → Option Value} {base : Heap} {CX : CXT}
theorem fn_initJ {nm x qual : Str} {st : Stmt} {f C : Addr} {fd : FuncData} {N ps : List Str} {k : Nat} {fi : ISp} (hC : PySem.W.nsIn K mainGlobals nm = some (some (.ref C))) (Fu : Fun K x qual st f fd) (S : FnScope N ps (defScope st)) (tb : DSJ)
    (hd : ∀ (cdv : Value) (A : Around) (outer : List Env) (s : Shared) (H : Hp) (E : XK), Room k (A.deeper (envOfC qual (defScope st) s.heap.objs.size f cdv)) → (A.deeper (envOfC qual (defScope st) s.heap.objs.size f cdv)).guards = some [] →
      PSs (cxOf CX P w K mg base N qual (defScope st) f cdv A outer s H E).nox (defBody st) (upJ K nm C tb))
    (hv : ∀ rs post, fi rs post → ∀ r ∈ rs, ∃ d, r = .val d)
    (hb : ∀ p rs post, rs.length + 1 = ps.length → fi rs post → tb (fun g => ∃ fs, g.sl[0]? = some (some (.ob (.insAt p nm fs))) ∧ post fs) (ent N (.ob (.insAt p nm []) :: rs) none)) : Fn P w K mg base CX (k + 1) f fd ps (liftI K nm ps.length fi) := by
  refine fn_by Fu S liftI_len fun cdv A outer s H vs Q E hr hg h => ⟨_, (hd cdv A outer s H E hr hg).nox, ?_⟩
  obtain ⟨p, C', dx, vs', F, a, rs, post, rfl, hl, hC', e, fp, hp, t, hf, hq⟩ := h
  rw [hC] at hC'
  cases hC'
  have e1 : Ex F (upd F p (.ins C dx [])) := Ex.new fp
  have e2 : Ex (upd F p (.ins C dx [])) H := fun b o h => by
    by_cases z : b = p
    · subst z; rw [upd_same] at h; cases h; exact hp
    · rw [upd_ne z] at h; exact e b o h
  have t1 : Tm K (upd F p (.ins C dx [])) a none (.ref p :: vs') (.ob (.insAt p nm []) :: rs) := .cons (show RvOk K _ a none (.ref p) (.ob (.insAt p nm [])) from ⟨C, dx, [], rfl, hC, upd_same, rfl, .nil⟩) (t.up e1)
  have st0 := sta_ent (N := N) e2 t1 fun n z => by cases z
  have hrs : rs.length + 1 = ps.length := by rw [← t.len]; exact hl
  have pl : (ent N (.ob (.insAt p nm []) :: rs) none).sl.tail.all plainS = true := by
    show (rs.map svOf ++ List.replicate (N.length - (rs.length + 1)) none).all plainS = true
    rw [List.all_eq_true]
    intro y hy
    rcases List.mem_append.mp hy with hy | hy
    · obtain ⟨r, hr, rfl⟩ := List.mem_map.mp hy
      obtain ⟨d, rfl⟩ := hv rs post hf r hr
      rfl
    · rw [List.eq_of_mem_replicate hy]; rfl
  refine ⟨p, dx, F, H, _, _, a, [], [], _, ⟨st0, rfl, rfl, pl, hC, upd_same, fp, rfl, .nil, e1, fun b o _ h => h, fun b n h => by rw [upd_ne n] at h; exact .inl h⟩, hb p rs post hrs hf, fun g' σ' H' F' a' us' fs' hp' s' => ?_⟩
  obtain ⟨fs2, q1, q2⟩ := hp'
  have q3 := s'.sl0
  rw [q1] at q3
  cases q3
  have off : ∀ b o, (∀ C dx us, o ≠ HO.ins C dx us) → F' b = some o → (fun b => if b = p then none else F' b) b = some o := fun b o n h => by
    show (if b = p then none else F' b) = _
    rw [if_neg fun z => by subst z; rw [s'.ins] at h; cases h; exact n _ _ _ rfl]
    exact h
  refine hq _ us' (fun b => if b = p then none else F' b) H' q2 (fun b o h => ?_) (fun b o h => ?_) (if_pos rfl) (s'.st.eh _ _ s'.ins) s'.nm (Rps.off off _ _ s'.rp) s'.kp (fun b h => ?_)
  · show (if b = p then none else F' b) = _
    rw [if_neg fun z => by subst z; rw [fp] at h; cases h]
    exact s'.e0 b o h
  · have h : (if b = p then none else F' b) = some o := h
    split at h
    · cases h
    · exact s'.st.eh b o h
  · have h : (if b = p then none else F' b) ≠ none := h
    split at h
    · exact absurd rfl h
    · rename_i n
      exact s'.nw b n h
end
end Z

namespace Z
open L2 PySem PySem.Spec PyProof.Rows
/-! ### square roots: plain law -/
/-- the sign of the root of n / d minus t / b * 2 ^ e -/
def cmR (n d e t b : Int) : Int :=
  (if d * t * t * 2 ^ (2 * e).toNat < n * b * b * 2 ^ (0 - 2 * e).toNat then 1 else 0) - (if n * b * b * 2 ^ (0 - 2 * e).toNat < d * t * t * 2 ^ (2 * e).toNat then 1 else 0)
theorem cmR_pos {n d e t b : Int} : 0 < cmR n d e t b ↔ d * t * t * 2 ^ (2 * e).toNat < n * b * b * 2 ^ (0 - 2 * e).toNat := by
  unfold cmR
  split <;> split <;> omega
theorem cmR_nn {n d e t b : Int} : 0 ≤ cmR n d e t b ↔ d * t * t * 2 ^ (2 * e).toNat ≤ n * b * b * 2 ^ (0 - 2 * e).toNat := by
  unfold cmR
  split <;> split <;> omega
theorem cmR_zero {n d e t b : Int} : cmR n d e t b = 0 ↔ n * b * b * 2 ^ (0 - 2 * e).toNat = d * t * t * 2 ^ (2 * e).toNat := by
  unfold cmR
  split <;> split <;> omega
/-- the root's cell -/
structure RC (n d w k e : Int) : Prop where
  lo : 2 ^ (w - 1).toNat ≤ k
  hi : k < 2 ^ w.toNat
  le : k * k * (d * 2 ^ (2 * e).toNat) ≤ n * 2 ^ (0 - 2 * e).toNat
  lt : n * 2 ^ (0 - 2 * e).toNat < (k + 1) * (k + 1) * (d * 2 ^ (2 * e).toNat)
theorem sq_le {x y : Int} (h0 : 0 ≤ x) (h : x ≤ y) : x * x ≤ y * y := Int.mul_le_mul h h h0 (Int.le_trans h0 h)
theorem sq_lt {x y c : Int} (hc : 0 < c) (hx : 0 ≤ x) (hy : 0 ≤ y) (h : x * x * c < (y + 1) * (y + 1) * c) : x ≤ y := by
  rcases Int.lt_or_le y x with z | z
  · have := Int.mul_le_mul_of_nonneg_right (sq_le (show 0 ≤ y + 1 by omega) (show y + 1 ≤ x by omega)) (Int.le_of_lt hc)
    omega
  · exact z
theorem p4 (m : Nat) : (2 : Int) ^ m * 2 ^ m = 4 ^ m := by rw [← Int.mul_pow]; rfl
theorem RC.bnd {n d w k e : Int} (hd : 0 < d) (hw : 1 ≤ w) (h : RC n d w k e) : 4 ^ (w - 1).toNat * (d * 2 ^ (2 * e).toNat) ≤ n * 2 ^ (0 - 2 * e).toNat ∧ n * 2 ^ (0 - 2 * e).toNat < 4 * 4 ^ (w - 1).toNat * (d * 2 ^ (2 * e).toNat) := by
  obtain ⟨h1, h2, h3, h4⟩ := h
  have ew : w.toNat = (w - 1).toNat + 1 := by omega
  rw [ew, Int.pow_succ] at h2
  generalize (w - 1).toNat = m at *
  have hp := Int.mul_pos hd (pow2_pos (2 * e).toNat)
  generalize d * 2 ^ (2 * e).toNat = P at *
  have q1 := sq_le (Int.le_of_lt (pow2_pos m)) h1
  have q2 := sq_le (show 0 ≤ k + 1 by have := pow2_pos m; omega) (show k + 1 ≤ 2 ^ m * 2 by omega)
  have e2 : (2 : Int) ^ m * 2 * (2 ^ m * 2) = 4 * 4 ^ m := by rw [← p4]; grind
  rw [p4] at q1
  rw [e2] at q2
  have r1 := Int.mul_le_mul_of_nonneg_right q1 (Int.le_of_lt hp)
  have r2 := Int.mul_le_mul_of_nonneg_right q2 (Int.le_of_lt hp)
  omega
/-- the cell of a root times a power of two -/
theorem RC.scaled {n d n' d' w k e k' e' s : Int} {a b : Nat} (hd : 0 < d) (hd' : 0 < d') (hw : 1 ≤ w) (hx : n' * d * 2 ^ a = n * d' * 2 ^ b) (hs : (b : Int) - a = 2 * s) (h : RC n d w k e) (h' : RC n' d' w k' e') :
    k' = k ∧ e' = e + s ∧ n' * 2 ^ (0 - 2 * e').toNat * (d * 2 ^ (2 * e).toNat) = n * 2 ^ (0 - 2 * e).toNat * (d' * 2 ^ (2 * e').toNat) := by
  obtain ⟨b1, b2⟩ := h.bnd hd hw
  obtain ⟨c1, c2⟩ := h'.bnd hd' hw
  obtain ⟨lo, hi, x1, x2⟩ := h
  obtain ⟨lo', hi', y1, y2⟩ := h'
  generalize hq : (0 - 2 * e).toNat = q at *
  generalize hp : (2 * e).toNat = p at *
  generalize hq' : (0 - 2 * e').toNat = q' at *
  generalize hp' : (2 * e').toNat = p' at *
  have P0 := Int.mul_pos hd (pow2_pos p)
  have P0' := Int.mul_pos hd' (pow2_pos p')
  have k0 : 0 ≤ k := Int.le_trans (Int.le_of_lt (pow2_pos _)) lo
  have k0' : 0 ≤ k' := Int.le_trans (Int.le_of_lt (pow2_pos _)) lo'
  have m0 : (0 : Int) < 4 ^ (w - 1).toNat := Int.pow_pos (by decide)
  generalize (4 : Int) ^ (w - 1).toNat = M at *
  have key : n' * 2 ^ q' * (d * 2 ^ p) * 2 ^ (a + p' + q) = n * 2 ^ q * (d' * 2 ^ p') * 2 ^ (b + q' + p) := by
    calc n' * 2 ^ q' * (d * 2 ^ p) * 2 ^ (a + p' + q) = (n' * d * 2 ^ a) * (2 ^ q' * 2 ^ p * 2 ^ p' * 2 ^ q) := by rw [Int.pow_add, Int.pow_add]; grind
      _ = (n * d' * 2 ^ b) * (2 ^ q' * 2 ^ p * 2 ^ p' * 2 ^ q) := by rw [hx]
      _ = _ := by rw [Int.pow_add, Int.pow_add]; grind
  generalize hu : a + p' + q = u at key
  generalize hv : b + q' + p = v at key
  have huv : (v : Int) - u = 2 * (s + e - e') := by omega
  generalize hA : n * 2 ^ q = A at *
  generalize hP : d * 2 ^ p = P at *
  generalize hA' : n' * 2 ^ q' = A' at *
  generalize hP' : d' * 2 ^ p' = P' at *
  have t1 : ¬ u + 2 ≤ v := fun z => by
    obtain ⟨f, rfl⟩ : ∃ f, v = u + 2 + f := ⟨v - (u + 2), by omega⟩
    have k2 : A' * P = A * P' * (4 * 2 ^ f) := by
      refine Int.eq_of_mul_eq_mul_right (a := 2 ^ u) (by have := pow2_pos u; omega) ?_
      rw [key, Int.pow_add, Int.pow_add]
      grind
    have z1 : M * P * P' ≤ A * P' := Int.mul_le_mul_of_nonneg_right b1 (Int.le_of_lt P0')
    have z2 : A' * P < 4 * M * P' * P := Int.mul_lt_mul_of_pos_right c2 P0
    have z3 := Int.mul_nonneg (Int.le_trans (Int.mul_nonneg (Int.mul_nonneg (Int.le_of_lt m0) (Int.le_of_lt P0)) (Int.le_of_lt P0')) z1) (show (0 : Int) ≤ 2 ^ f - 1 by have := pow2_pos f; omega)
    have z4 : A * P' * (4 * 2 ^ f) = 4 * (A * P' * (2 ^ f - 1)) + 4 * (A * P') := by grind
    have z5 : 4 * M * P' * P = 4 * (M * P * P') := by grind
    omega
  have t2 : ¬ v + 2 ≤ u := fun z => by
    obtain ⟨f, rfl⟩ : ∃ f, u = v + 2 + f := ⟨u - (v + 2), by omega⟩
    have k2 : A * P' = A' * P * (4 * 2 ^ f) := by
      refine Int.eq_of_mul_eq_mul_right (a := 2 ^ v) (by have := pow2_pos v; omega) ?_
      rw [← key, Int.pow_add, Int.pow_add]
      grind
    have z1 : M * P' * P ≤ A' * P := Int.mul_le_mul_of_nonneg_right c1 (Int.le_of_lt P0)
    have z2 : A * P' < 4 * M * P * P' := Int.mul_lt_mul_of_pos_right b2 P0'
    have z3 := Int.mul_nonneg (Int.le_trans (Int.mul_nonneg (Int.mul_nonneg (Int.le_of_lt m0) (Int.le_of_lt P0')) (Int.le_of_lt P0)) z1) (show (0 : Int) ≤ 2 ^ f - 1 by have := pow2_pos f; omega)
    have z4 : A' * P * (4 * 2 ^ f) = 4 * (A' * P * (2 ^ f - 1)) + 4 * (A' * P) := by grind
    have z5 : 4 * M * P * P' = 4 * (M * P' * P) := by grind
    omega
  have e1 : u = v := by omega
  subst e1
  have k1 : A' * P = A * P' := Int.eq_of_mul_eq_mul_right (a := 2 ^ u) (by have := pow2_pos u; omega) key
  refine ⟨?_, by omega, k1⟩
  have PP := Int.mul_pos P0 P0'
  have l1 : k ≤ k' := sq_lt PP k0 k0' (by
    have r1 := Int.mul_le_mul_of_nonneg_right x1 (Int.le_of_lt P0')
    have r2 := Int.mul_lt_mul_of_pos_right y2 P0
    have q1 : k * k * P * P' = k * k * (P * P') := by grind
    have q2 : (k' + 1) * (k' + 1) * P' * P = (k' + 1) * (k' + 1) * (P * P') := by grind
    omega)
  have l2 : k' ≤ k := sq_lt PP k0' k0 (by
    have r1 := Int.mul_le_mul_of_nonneg_right y1 (Int.le_of_lt P0)
    have r2 := Int.mul_lt_mul_of_pos_right x2 P0'
    have q1 : k' * k' * P' * P = k' * k' * (P * P') := by grind
    have q2 : (k + 1) * (k + 1) * P * P' = (k + 1) * (k + 1) * (P * P') := by grind
    omega)
  omega
theorem RC.uniq {n d w k e k' e' : Int} (hd : 0 < d) (hw : 1 ≤ w) (h : RC n d w k e) (h' : RC n d w k' e') : k' = k ∧ e' = e := by
  obtain ⟨a, b, _⟩ := RC.scaled (a := 0) (b := 0) (s := 0) hd hd hw rfl (by decide) h h'
  exact ⟨a, by omega⟩
theorem cmR_cross {n d n' d' e e' t b : Int} (hd : 0 < d) (hd' : 0 < d') (h : n' * 2 ^ (0 - 2 * e').toNat * (d * 2 ^ (2 * e).toNat) = n * 2 ^ (0 - 2 * e).toNat * (d' * 2 ^ (2 * e').toNat)) : cmR n' d' e' t b = cmR n d e t b := by
  unfold cmR
  generalize (0 - 2 * e).toNat = q at *
  generalize hp : (2 * e).toNat = p at *
  generalize (0 - 2 * e').toNat = q' at *
  generalize hp' : (2 * e').toNat = p' at *
  have P0 := Int.mul_pos hd (pow2_pos p)
  have P0' := Int.mul_pos hd' (pow2_pos p')
  have L : n * b * b * 2 ^ q * (d' * 2 ^ p') = n' * b * b * 2 ^ q' * (d * 2 ^ p) := by
    calc n * b * b * 2 ^ q * (d' * 2 ^ p') = b * b * (n * 2 ^ q * (d' * 2 ^ p')) := by grind
      _ = b * b * (n' * 2 ^ q' * (d * 2 ^ p)) := by rw [h]
      _ = _ := by grind
  have R : d * t * t * 2 ^ p * (d' * 2 ^ p') = d' * t * t * 2 ^ p' * (d * 2 ^ p) := by grind
  have i1 : d * t * t * 2 ^ p < n * b * b * 2 ^ q ↔ d' * t * t * 2 ^ p' < n' * b * b * 2 ^ q' := by
    rw [← Int.mul_lt_mul_right P0', L, R, Int.mul_lt_mul_right P0]
  have i2 : n * b * b * 2 ^ q < d * t * t * 2 ^ p ↔ n' * b * b * 2 ^ q' < d' * t * t * 2 ^ p' := by
    rw [← Int.mul_lt_mul_right P0', L, R, Int.mul_lt_mul_right P0]
  simp only [i1, i2]
/-- the first guess of the exponent -/
def e0R (n d w : Int) : Int := (bl n - bl d) / 2 - w
def eR (n d w : Int) : Int := if 0 ≤ cmR n d (e0R n d w) (2 ^ w.toNat) 1 then e0R n d w + 1 else e0R n d w
theorem guessR {n d w : Int} (hn : 0 < n) (hd : 0 < d) (hw : 1 ≤ w) :
    4 ^ (w - 1).toNat * (d * 2 ^ (2 * e0R n d w).toNat) ≤ n * 2 ^ (0 - 2 * e0R n d w).toNat ∧ n * 2 ^ (0 - 2 * e0R n d w).toNat < 4 * 4 * 4 ^ (w - 1).toNat * (d * 2 ^ (2 * e0R n d w).toNat) := by
  obtain ⟨p, ep, p1, p2⟩ := bl_pos hn
  obtain ⟨q, eq, q1, q2⟩ := bl_pos hd
  have he : e0R n d w = ((p : Int) - q) / 2 - w := by
    unfold e0R
    rw [ep, eq]
    congr 2
    omega
  obtain ⟨v, ev⟩ : ∃ v : Nat, w = (v : Int) + 1 := ⟨(w - 1).toNat, by omega⟩
  have e1 : (w - 1).toNat = v := by omega
  rw [e1, ← p4]
  generalize e0R n d w = e at *
  generalize hA : (0 - 2 * e).toNat = A
  generalize hB : (2 * e).toNat = B
  have h2A := pow2_pos A
  have h2B := pow2_pos B
  have h2v := pow2_pos v
  have v2 : (0 : Int) < 2 ^ v * 2 ^ v := Int.mul_pos h2v h2v
  constructor
  · have s1 : 2 ^ v * 2 ^ v * (d * 2 ^ B) ≤ 2 ^ v * 2 ^ v * (2 ^ (q + 1) * 2 ^ B) := Int.mul_le_mul_of_nonneg_left (Int.mul_le_mul_of_nonneg_right (Int.le_of_lt q2) (Int.le_of_lt h2B)) (Int.le_of_lt v2)
    have s2 : (2 : Int) ^ v * 2 ^ v * (2 ^ (q + 1) * 2 ^ B) ≤ 2 ^ p * 2 ^ A := by
      rw [← Int.pow_add, ← Int.pow_add, ← Int.pow_add, ← Int.pow_add]
      exact pow_le2 (by omega)
    have s3 : (2 : Int) ^ p * 2 ^ A ≤ n * 2 ^ A := Int.mul_le_mul_of_nonneg_right p1 (Int.le_of_lt h2A)
    omega
  · have s1 : n * 2 ^ A < 2 ^ (p + 1) * 2 ^ A := Int.mul_lt_mul_of_pos_right p2 h2A
    have s2 : (2 : Int) ^ (p + 1) * 2 ^ A ≤ 2 ^ 4 * (2 ^ v * 2 ^ v) * (2 ^ q * 2 ^ B) := by
      rw [← Int.pow_add, ← Int.pow_add, ← Int.pow_add, ← Int.pow_add, ← Int.pow_add]
      exact pow_le2 (by omega)
    have s3 : (4 * 4 * (2 ^ v * 2 ^ v)) * (2 ^ q * 2 ^ B) ≤ (4 * 4 * (2 ^ v * 2 ^ v)) * (d * 2 ^ B) := Int.mul_le_mul_of_nonneg_left (Int.mul_le_mul_of_nonneg_right q1 (Int.le_of_lt h2B)) (by omega)
    have e4 : (2 : Int) ^ 4 = 4 * 4 := by decide
    rw [e4] at s2
    omega
/-- one exponent more: a quarter of it -/
theorem quarter (n d e : Int) : n * 2 ^ (0 - 2 * (e + 1)).toNat * (d * 2 ^ (2 * e).toNat) * 4 = n * 2 ^ (0 - 2 * e).toNat * (d * 2 ^ (2 * (e + 1)).toNat) := by
  generalize hA : (0 - 2 * (e + 1)).toNat = A
  generalize hB : (2 * (e + 1)).toNat = B
  generalize hA' : (0 - 2 * e).toNat = A'
  generalize hB' : (2 * e).toNat = B'
  have s : (2 : Int) ^ A * 2 ^ B' * 4 = 2 ^ A' * 2 ^ B := by
    have : (4 : Int) = 2 ^ 2 := by decide
    rw [this, ← Int.pow_add, ← Int.pow_add, ← Int.pow_add]
    congr 1
    omega
  calc n * 2 ^ A * (d * 2 ^ B') * 4 = n * d * (2 ^ A * 2 ^ B' * 4) := by grind
    _ = n * d * (2 ^ A' * 2 ^ B) := by rw [s]
    _ = _ := by grind
theorem cm_top {n d e w : Int} (hw : 1 ≤ w) : 0 ≤ cmR n d e (2 ^ w.toNat) 1 ↔ 4 * 4 ^ (w - 1).toNat * (d * 2 ^ (2 * e).toNat) ≤ n * 2 ^ (0 - 2 * e).toNat := by
  rw [cmR_nn]
  have ew : w.toNat = (w - 1).toNat + 1 := by omega
  rw [ew, Int.pow_succ, ← p4]
  generalize (2 : Int) ^ (w - 1).toNat = M
  rw [show d * (M * 2) * (M * 2) * 2 ^ (2 * e).toNat = 4 * (M * M) * (d * 2 ^ (2 * e).toNat) by grind, Int.mul_one, Int.mul_one]
/-- the exponent found -/
theorem eR_spec {n d w : Int} (hn : 0 < n) (hd : 0 < d) (hw : 1 ≤ w) :
    4 ^ (w - 1).toNat * (d * 2 ^ (2 * eR n d w).toNat) ≤ n * 2 ^ (0 - 2 * eR n d w).toNat ∧ n * 2 ^ (0 - 2 * eR n d w).toNat < 4 * 4 ^ (w - 1).toNat * (d * 2 ^ (2 * eR n d w).toNat) ∧ ¬ 0 ≤ cmR n d (eR n d w) (2 ^ w.toNat) 1 := by
  obtain ⟨g1, g2⟩ := guessR hn hd hw
  have main : 4 ^ (w - 1).toNat * (d * 2 ^ (2 * eR n d w).toNat) ≤ n * 2 ^ (0 - 2 * eR n d w).toNat ∧ n * 2 ^ (0 - 2 * eR n d w).toNat < 4 * 4 ^ (w - 1).toNat * (d * 2 ^ (2 * eR n d w).toNat) := by
    unfold eR
    by_cases h : 0 ≤ cmR n d (e0R n d w) (2 ^ w.toNat) 1
    · rw [if_pos h]
      have h' := (cm_top hw).mp h
      have hq := quarter n d (e0R n d w)
      generalize e0R n d w = e at *
      have P0 := Int.mul_pos hd (pow2_pos (2 * e).toNat)
      have P0' := Int.mul_pos hd (pow2_pos (2 * (e + 1)).toNat)
      generalize n * 2 ^ (0 - 2 * (e + 1)).toNat = A' at *
      generalize n * 2 ^ (0 - 2 * e).toNat = A at *
      generalize d * 2 ^ (2 * (e + 1)).toNat = P' at *
      generalize d * 2 ^ (2 * e).toNat = P at *
      generalize (4 : Int) ^ (w - 1).toNat = M at *
      constructor
      · refine Int.le_of_mul_le_mul_right (a := P * 4) ?_ (by omega)
        have := Int.mul_le_mul_of_nonneg_right h' (Int.le_of_lt P0')
        grind
      · refine Int.lt_of_mul_lt_mul_right (a := P * 4) ?_ (by omega)
        have := Int.mul_lt_mul_of_pos_right g2 P0'
        grind
    · rw [if_neg h]
      exact ⟨g1, Int.not_le.mp fun z => h ((cm_top hw).mpr z)⟩
  exact ⟨main.1, main.2, fun z => by have := (cm_top hw).mp z; omega⟩
/-- any whole root makes the cell -/
theorem RC.of {n d w k e : Int} (hd : 0 < d) (hw : 1 ≤ w) (h1 : 4 ^ (w - 1).toNat * (d * 2 ^ (2 * e).toNat) ≤ n * 2 ^ (0 - 2 * e).toNat) (h2 : n * 2 ^ (0 - 2 * e).toNat < 4 * 4 ^ (w - 1).toNat * (d * 2 ^ (2 * e).toNat))
    (k0 : 0 ≤ k) (k1 : k * k ≤ n * 2 ^ (0 - 2 * e).toNat / (d * 2 ^ (2 * e).toNat)) (k2 : n * 2 ^ (0 - 2 * e).toNat / (d * 2 ^ (2 * e).toNat) < (k + 1) * (k + 1)) : RC n d w k e := by
  have P0 := Int.mul_pos hd (pow2_pos (2 * e).toNat)
  have x1 := (Int.le_ediv_iff_mul_le P0).mp k1
  have x2 := (Int.ediv_lt_iff_lt_mul P0).mp k2
  have ew : w.toNat = (w - 1).toNat + 1 := by omega
  refine ⟨?_, ?_, x1, x2⟩
  · refine sq_lt P0 (Int.le_of_lt (pow2_pos _)) k0 ?_
    rw [p4]
    omega
  · rw [ew, Int.pow_succ]
    have : k + 1 ≤ 2 ^ (w - 1).toNat * 2 - 1 + 1 := ?_
    · omega
    have h0 := pow2_pos (w - 1).toNat
    have := sq_lt (x := k) (y := 2 ^ (w - 1).toNat * 2 - 1) P0 k0 (by omega) (by
      have : (2 ^ (w - 1).toNat * 2 - 1 + 1) * (2 ^ (w - 1).toNat * 2 - 1 + 1) = 4 * (4 : Int) ^ (w - 1).toNat := by rw [← p4]; grind
      rw [this]
      omega)
    omega
/-- whether the root's position is above the threshold -/
def UpR (n d e k : Int) (T : Bool → Th) : Prop :=
  cmR n d e k 1 ≠ 0 ∧ (0 < cmR n d e (k * (T (decide (k % 2 = 1))).d + (T (decide (k % 2 = 1))).n) (T (decide (k % 2 = 1))).d ∨ (cmR n d e (k * (T (decide (k % 2 = 1))).d + (T (decide (k % 2 = 1))).n) (T (decide (k % 2 = 1))).d = 0 ∧ (T (decide (k % 2 = 1))).up = true))
instance (n d e k : Int) (T : Bool → Th) : Decidable (UpR n d e k T) := by unfold UpR; infer_instance
def rootI (n d e k : Int) (T : Bool → Th) : Int × Int := powI (k + (if UpR n d e k T then 1 else 0)) e
theorem upR_cross {n d n' d' e e' k : Int} {T : Bool → Th} (hd : 0 < d) (hd' : 0 < d') (h : n' * 2 ^ (0 - 2 * e').toNat * (d * 2 ^ (2 * e).toNat) = n * 2 ^ (0 - 2 * e).toNat * (d' * 2 ^ (2 * e').toNat)) : UpR n' d' e' k T ↔ UpR n d e k T := by
  unfold UpR
  rw [cmR_cross hd hd' h, cmR_cross hd hd' h]
/-- sizes -/
theorem eR_rng {n d w : Int} {a b : Nat} (hn : 0 < n) (ba : Bn a n) (hd : 0 < d) (bb : Bn b d) (h1 : 1 ≤ w) (h2 : w ≤ 100) : -(b : Int) - 100 ≤ eR n d w ∧ eR n d w ≤ a := by
  have x1 := bl_le ba
  have x2 := bl_le bb
  have x3 := bl_nn n
  have x4 := bl_nn d
  unfold eR e0R
  split <;> omega
end Z

namespace Z
open L2 PySem PySem.Spec PyProof.Rows
open Evl (Ex ex_l ex_t ex_rd fresh_back)
/-! ### range(i, j, -1) -/
def downD (lo : Int) (n : Nat) : List Da := (List.range n).map fun i => .int (lo + (i : Nat) * (-1))
theorem downD_get {lo : Int} {n i : Nat} (h : i < n) : (downD lo n)[i]? = some (.int (lo + (i : Nat) * (-1))) := by
  unfold downD
  rw [List.getElem?_map, List.getElem?_range h]
  rfl
theorem downD_len (lo : Int) (n : Nat) : (downD lo n).length = n := by
  unfold downD
  rw [List.length_map, List.length_range]
theorem downD_at {lo : Int} {n i : Nat} {x : Da} (h : (downD lo n)[i]? = some x) : i < n ∧ x = .int (lo - i) := by
  have hl : i < n := by
    have := (List.getElem?_eq_some_iff.mp h).1
    rwa [downD_len] at this
  rw [downD_get hl] at h
  cases h
  exact ⟨hl, by congr 1; omega⟩
theorem walkD_down {K : Fg} {lo : Int} {n : Nat} : WalkD K (Itc lo (-1) n) (downD lo n) [] [] := by
  refine ⟨fun i F H a fu e t hi => ?_, fun F H a fu e t => ?_, fun i F H a fu x H' e t hi y => ?_⟩
  · rw [downD_len] at hi; exact hi
  · rw [downD_len]; exact Nat.le_refl n
  · rw [downD_len] at hi
    obtain ⟨rfl, rfl⟩ := y
    exact ⟨F, _, downD_get hi, Gr.refl e, .int _⟩
def dRangeN (ta tb : DE) : DW := fun g Q => ta g fun x g1 => tb g1 fun y g2 => match x, y with
  | .val (.int i), .val (.int j) => (-(2 ^ 62) ≤ i ∧ i < 2 ^ 62 ∧ -(2 ^ 62) ≤ j ∧ j < 2 ^ 62) ∧ Q (downD i (i - j).toNat) g2
  | _, _ => False
section
variable {X : Cx} {tg l b u : Expr} {ta tb : DE} {p pos : Pos}
theorem i_rangeN (hg : Gl X "range") (hm : X.mg "range" = none) (ha : PE X l (up X.K ta)) (hb : PE X b (up X.K tb)) (hu : PE X u (up X.K (dNeg (dC (.int 1))))) (hs : starEach [l, b, u] X.env = (false, eval l X.env) :: starEach [b, u] X.env := by rfl) (hs2 : starEach [b, u] X.env = (false, eval b X.env) :: starEach [u] X.env := by rfl) (hs3 : starEach [u] X.env = [(false, eval u X.env)] := by rfl)
    (hpl : (backTo pos (starEach [b, u] X.env)).any (·.1) = false := by rfl) :
    PI X tg (.Call (.Name "range" p) [l, b, u] [] pos) (upI X.K (dRangeN ta tb)) := pi_to (pi_range3 hg hm (pa_cons ha (pa_cons hb (pa_cons hu pa_nil hs3) hs2) hs) hs hpl) fun σ H R q => by
  obtain ⟨c, g, tv, tr, F, a, post, s, t, k⟩ := q
  refine ⟨c, g, tv, tr, F, a, _, s, t, fun r g1 v H1 F1 a1 t1 s1 => ?_⟩
  refine ⟨c, g1, _, _, F1, a1, _, s1, t1, fun r2 g2 v2 H2 F2 a2 t2 s2 => ?_⟩
  refine ⟨c, g2, _, _, F2, a2, fun r3 g3 => r3 = .val (.int (-1)) ∧ g3 = g2, s2, ⟨rfl, rfl⟩, fun r3 g3 v3 H3 F3 a3 t3 s3 => ?_⟩
  obtain ⟨rfl, rfl⟩ := t3
  split at t2
  · rename_i i j
    have hr : Rp X.K F3 v (.int i) := s3.pop1.pop1.top
    have hr2 : Rp X.K F3 v2 (.int j) := s3.pop1.top
    have hr3 : Rp X.K F3 v3 (.int (-1)) := s3.top
    cases hr
    cases hr2
    cases hr3
    exact ⟨i, j, -1, _, rfl, RgC.neg t2.1.1 t2.1.2.1 t2.1.2.2.1 t2.1.2.2.2, k _ g3 H3 F3 a3 _ [] [] t2.2 s3.pop1.pop1.pop1 rfl rfl walkD_down⟩
  · exact t2.elim
end
end Z

namespace Z
open L2 PySem PySem.Spec PyProof.Rows
open Evl (Ex ex_l ex_t ex_rd fresh_back)
/-! ### shown values, dicts among them -/
mutual
def layX : Da → Bool
  | .none => true
  | .bool _ => true
  | .int _ => true
  | .str x => PyData.strOk x
  | .list xs => layXs xs
  | .tuple xs => layXs xs
  | .dict kvs => layKv kvs
def layXs : List Da → Bool
  | [] => true
  | x :: xs => layX x && layXs xs
def layKv : List (Da × Da) → Bool
  | [] => true
  | (k, v) :: r => layX k && layX v && layKv r
end
mutual
def szX : Da → Nat
  | .none => 4
  | .bool _ => 5
  | .int _ => 1921
  | .str x => 10 * x.length + 2
  | .list xs => szXs xs + 3
  | .tuple xs => szXs xs + 3
  | .dict kvs => szKv kvs + 3
def szXs : List Da → Nat
  | [] => 0
  | x :: xs => szX x + 2 + szXs xs
def szKv : List (Da × Da) → Nat
  | [] => 0
  | (k, v) :: r => szX k + szX v + 4 + szKv r
end
theorem dictText_len_le (ps : List Str) : (dictText ps).length ≤ (ps.map (·.length)).sum + 2 * ps.length + 2 := by
  have h : (Str.join ", " ps).length ≤ (ps.map (·.length)).sum + ps.length * 2 := StrLaws.join_length_le ", " ps
  unfold dictText
  rw [strLen_append, strLen_append]
  show 1 + (Str.join ", " ps).length + 1 ≤ _
  omega
mutual
theorem szX_ok : ∀ d : Da, layX d = true → d.showable = true → d.shown.length ≤ szX d
  | .none, _, _ => by decide +kernel
  | .bool true, _, _ => by decide +kernel
  | .bool false, _, _ => by decide +kernel
  | .int i, _, h => int_text_len_1921 (of_decide_eq_true (show decide (i.natAbs.log2 < 1920) = true from h))
  | .str x, h, _ => StrLaws.reprText_len x (strOk_small h)
  | .list xs, h, h' => by
    have h1 := szXs_ok xs h (by simpa [PyData.showable] using h')
    have h2 := listText_len_le (PyData.shownAll xs)
    show (listText (PyData.shownAll xs)).length ≤ szXs xs + 3
    omega
  | .tuple xs, h, h' => by
    have h1 := szXs_ok xs h (by simpa [PyData.showable] using h')
    have h2 := tupleText_len_le (PyData.shownAll xs)
    show (tupleText (PyData.shownAll xs)).length ≤ szXs xs + 3
    omega
  | .dict kvs, h, h' => by
    have h1 := szKv_ok kvs h (by simpa [PyData.showable] using h')
    have h2 := dictText_len_le (PyData.shownKv kvs)
    show (dictText (PyData.shownKv kvs)).length ≤ szKv kvs + 3
    omega
theorem szXs_ok : ∀ xs : List Da, layXs xs = true → PyData.showableAll xs = true → ((PyData.shownAll xs).map (·.length)).sum + 2 * (PyData.shownAll xs).length ≤ szXs xs
  | [], _, _ => by simp [PyData.shownAll, szXs]
  | x :: xs, h, h' => by
    have q : layX x = true ∧ layXs xs = true := by simpa [layXs] using h
    have q' : x.showable = true ∧ PyData.showableAll xs = true := by simpa [PyData.showableAll] using h'
    have h1 := szX_ok x q.1 q'.1
    have h2 := szXs_ok xs q.2 q'.2
    simp only [PyData.shownAll, szXs, List.map_cons, List.sum_cons, List.length_cons]
    omega
theorem szKv_ok : ∀ kvs : List (Da × Da), layKv kvs = true → PyData.showableKv kvs = true → ((PyData.shownKv kvs).map (·.length)).sum + 2 * (PyData.shownKv kvs).length ≤ szKv kvs
  | [], _, _ => by simp [PyData.shownKv, szKv]
  | (k, v) :: r, h, h' => by
    have q : (layX k = true ∧ layX v = true) ∧ layKv r = true := by simpa [layKv] using h
    have q' : (k.showable = true ∧ v.showable = true) ∧ PyData.showableKv r = true := by simpa [PyData.showableKv] using h'
    have h1 := szX_ok k q.1.1 q'.1.1
    have h2 := szX_ok v q.1.2 q'.1.2
    have h3 := szKv_ok r q.2 q'.2
    have e : (k.shown ++ ": " ++ v.shown).length = k.shown.length + 2 + v.shown.length := by
      rw [strLen_append, strLen_append]; rfl
    simp only [PyData.shownKv, szKv, List.map_cons, List.sum_cons, List.length_cons, e]
    omega
end
mutual
theorem cps_shownX : ∀ d : Da, layX d = true → Cps d.shown
  | .none, _ => cps_of _
  | .bool b, _ => by cases b <;> exact cps_of _
  | .int i, _ => cps_of _
  | .str x, h => cps_repr (cps_ok.mp h)
  | .list xs, h => cps_app (cps_text _ _ _ (cps_of _) (cps_allX xs h)) (cps_of _)
  | .tuple xs, h => cps_app (cps_app (cps_of _) (cps_join (cps_of _) _ (cps_allX xs h))) (cps_of _)
  | .dict kvs, h => cps_app (cps_app (cps_of _) (cps_join (cps_of _) _ (cps_allKv kvs h))) (cps_of _)
theorem cps_allX : ∀ xs : List Da, layXs xs = true → ∀ t ∈ PyData.shownAll xs, Cps t
  | [], _, t, ht => by simp [PyData.shownAll] at ht
  | x :: xs, h, t, ht => by
    have q : layX x = true ∧ layXs xs = true := by simpa [layXs] using h
    rcases List.mem_cons.mp (show t ∈ x.shown :: PyData.shownAll xs from ht) with rfl | ht
    · exact cps_shownX x q.1
    · exact cps_allX xs q.2 t ht
theorem cps_allKv : ∀ kvs : List (Da × Da), layKv kvs = true → ∀ t ∈ PyData.shownKv kvs, Cps t
  | [], _, t, ht => by simp [PyData.shownKv] at ht
  | (k, v) :: r, h, t, ht => by
    have q : (layX k = true ∧ layX v = true) ∧ layKv r = true := by simpa [layKv] using h
    rcases List.mem_cons.mp (show t ∈ (k.shown ++ ": " ++ v.shown) :: PyData.shownKv r from ht) with rfl | ht
    · exact cps_app (cps_app (cps_shownX k q.1.1) (cps_of _)) (cps_shownX v q.1.2)
    · exact cps_allKv r q.2 t ht
end
/-- may be shown, dicts among them -/
structure ShX (d : Da) : Prop where
  lay : layX d = true
  sh : d.showable = true
  dp : d.depth ≤ 60
  sz : szX d ≤ 16000000
theorem ShX.len {d : Da} (h : ShX d) : d.shown.length ≤ sizeLine := Nat.le_trans (szX_ok d h.lay h.sh) (Nat.le_trans h.sz (by decide))
theorem ShX.cps {d : Da} (h : ShX d) : Cps d.shown := cps_shownX d h.lay
section
variable {X : Cx} {pins : List (Addr × Obj)} {σ : L2.St} {H F : Hp} {s : Shared}
theorem rek_more {P : Program} {w : World} {as as' : List Addr} {h : Heap} {d d' : Nat} (hsub : ∀ b ∈ as, b ∈ as') (hd : d ≤ d') : ∀ {es : List DictEntry} {ps : List Str}, ReprEntriesK P w as h d es ps → ReprEntriesK P w as' h d' es ps
  | _, _, .nil => .nil
  | _, _, .cons h1 h2 h3 => .cons ((h1.more hsub).level_le hd) ((h2.more hsub).level_le hd) (rek_more hsub hd h3)
theorem key_reads {h : Heap} {k : Key} {v : Value} (e : keyIs k v = true) : Reads h v (keyD k) [] := by
  rcases keyIs_shape e with ⟨i, t, rfl, rfl⟩ | ⟨x, t, rfl, rfl⟩
  · exact .int i t
  · exact .str x t
mutual
theorem rp_repr (I : Inv X pins σ H s) (e : Ex F H) : ∀ (d : Da) (v : V) (u : Value), Rp X.K F v d → RelV v u → d.showable = true → d.shown.length ≤ sizeLine →
    ∃ as bs, Reads s.heap u d as ∧ ReadAtMost s.heap d.depth bs ∧ ReprK X.prog X.w bs s.heap d.depth u d.shown
  | .none, _, _, h, r, _, _ => by cases h; cases r; exact ⟨[], [], .none, (fun _ h => nomatch h), by simp only [PyData.shown]; exact .of_is ReprIs.none _ _ _⟩
  | .bool b, _, _, h, r, _, _ => by cases h; cases r; exact ⟨[], [], .bool b, (fun _ h => nomatch h), by simp only [PyData.shown]; exact .of_is (ReprIs.bool b) _ _ _⟩
  | .int i, _, _, h, r, hs, _ => by cases h; obtain ⟨t, rfl⟩ := r; exact ⟨[], [], .int i t, (fun _ h => nomatch h), by simp only [PyData.shown]; exact .of_is (ReprIs.int t (by simpa [PyData.showable] using hs)) _ _ _⟩
  | .str x, _, _, h, r, _, hz => by cases h; obtain ⟨t, rfl⟩ := r; exact ⟨[], [], .str x t, (fun _ h => nomatch h), by simp only [PyData.shown]; exact .of_is (ReprIs.str x t (by simpa only [PyData.shown] using hz)) _ _ _⟩
  | .list ds, _, _, h, r, hs, hz => by
    cases h with
    | lst hf ha =>
      rename_i a xs
      cases r
      obtain ⟨its, rv, ⟨⟨cls, dd, data, sls⟩, n, ho, hc, hdn, hdt⟩, hlen⟩ := I.list (.inl (.inl (e _ _ hf)))
      simp only at hc hdt
      subst hc hdt
      have hz' : (listText (PyData.shownAll ds)).length ≤ sizeLine := by simpa only [PyData.shown] using hz
      obtain ⟨as, bs, h4, hb, hk⟩ := rps_repr I e ds xs its ha rv (by simpa [PyData.showable] using hs) (fun t ht => Nat.le_trans (listText_mem_le ht) hz')
      have r : Reads s.heap (.ref a) (.list ds) _ := .list ho rfl rfl h4
      have hna : a ∉ bs := not_mem_of_deeper r (by simp only [PyData.depth]; omega) hb
      refine ⟨_, a :: bs, r, ReadAtMost.cons r (by simp only [PyData.depth]; omega) hb, ?_⟩
      simp only [PyData.depth, PyData.shown]
      cases its with
      | nil =>
        cases h4
        simp only [PyData.shownAll, listText_nil]
        exact ReprK.listEmpty ho rfl rfl
      | cons y l => exact ReprK.list ho rfl rfl hna (by simpa using hk.length_eq) (fun i y e => hk.item i y (by simpa using e))
  | .tuple ds, _, _, h, r, hs, hz => by
    cases h with
    | tup hf ha =>
      rename_i a xs
      cases r
      obtain ⟨its, rv, ⟨o, ho, hc, n, hd⟩, hlen⟩ := I.tuple (ex_t e hf)
      have hz' : (tupleText (PyData.shownAll ds)).length ≤ sizeLine := by simpa only [PyData.shown] using hz
      obtain ⟨as, bs, h4, hb, hk⟩ := rps_repr I e ds xs its ha rv (by simpa [PyData.showable] using hs) (fun t ht => Nat.le_trans (tupleText_mem_le ht) hz')
      have r : Reads s.heap (.ref a) (.tuple ds) _ := .tuple ho hc hd h4
      have hna : a ∉ bs := not_mem_of_deeper r (by simp only [PyData.depth]; omega) hb
      refine ⟨_, a :: bs, r, ReadAtMost.cons r (by simp only [PyData.depth]; omega) hb, ?_⟩
      simp only [PyData.depth, PyData.shown]
      exact ReprK.tuple ho hc hd hna hk
  | .dict es, _, _, h, r, hs, hz => by
    cases h with
    | dct hf ha =>
      rename_i a kvs
      cases r
      obtain ⟨hl, hsys, vs, hkv, o, en, ep, ho, hx, hd, _, hp, _⟩ := dk_rd I.hok (ex_rd e hf)
      have hz' : (dictText (PyData.shownKv es)).length ≤ sizeLine := by simpa only [PyData.shown] using hz
      obtain ⟨as, bs, b, h4, h5, hb, hk⟩ := rpk_repr I e es kvs vs en.toList ha hkv hp (by simpa [PyData.showable] using hs) (fun t ht => Nat.le_trans (dictText_mem_le ht) hz')
      have r : Reads s.heap (.ref a) (.dict es) _ := .dict ho hx.1 hd h4 h5
      have hna : a ∉ b := not_mem_of_deeper r (by simp only [PyData.depth]; omega) hb
      refine ⟨_, a :: b, r, ReadAtMost.cons r (by simp only [PyData.depth]; omega) hb, ?_⟩
      simp only [PyData.depth, PyData.shown]
      exact ReprK.dict ho hx.1 hd hsys hna hk
theorem rps_repr (I : Inv X pins σ H s) (e : Ex F H) : ∀ (ds : List Da) (vs : List V) (us : List Value), Rps X.K F vs ds → Vals vs us → PyData.showableAll ds = true → (∀ t ∈ PyData.shownAll ds, t.length ≤ sizeLine) →
    ∃ as bs, ReadsAll s.heap us ds as ∧ ReadAtMost s.heap (PyData.depthAll ds) bs ∧ ReprAllK X.prog X.w bs s.heap (PyData.depthAll ds) us (PyData.shownAll ds)
  | [], _, _, h, r, _, _ => by cases h; cases r; exact ⟨[], [], .nil, (fun _ h => nomatch h), by simp only [PyData.shownAll]; exact .nil⟩
  | d :: ds, _, _, h, r, hs, hz => by
    cases h with
    | cons h1 h2 =>
      cases r with
      | cons r1 r2 =>
        have hs' : d.showable = true ∧ PyData.showableAll ds = true := by simpa [PyData.showableAll] using hs
        obtain ⟨a1, b1, q1, hb1, k1⟩ := rp_repr I e d _ _ h1 r1 hs'.1 (hz _ (by simp only [PyData.shownAll]; exact List.mem_cons_self ..))
        obtain ⟨a2, b2, q2, hb2, k2⟩ := rps_repr I e ds _ _ h2 r2 hs'.2 (fun t ht => hz t (by simp only [PyData.shownAll]; exact List.mem_cons_of_mem _ ht))
        refine ⟨a1 ++ a2, b1 ++ b2, .cons q1 q2, ?_, ?_⟩
        · intro b hm
          simp only [PyData.depthAll]
          rcases List.mem_append.mp hm with hm | hm
          · obtain ⟨d', as', r', hd'⟩ := hb1 b hm
            exact ⟨d', as', r', Nat.le_trans hd' (Nat.le_max_left _ _)⟩
          · obtain ⟨d', as', r', hd'⟩ := hb2 b hm
            exact ⟨d', as', r', Nat.le_trans hd' (Nat.le_max_right _ _)⟩
        · simp only [PyData.depthAll, PyData.shownAll]
          exact .cons ((k1.more fun b hb => List.mem_append_left _ hb).level_le (Nat.le_max_left _ _)) (k2.more_le (fun b hb => List.mem_append_right _ hb) (Nat.le_max_right _ _))
theorem rpk_repr (I : Inv X pins σ H s) (e : Ex F H) : ∀ (es : List (Da × Da)) (kvs : List (Key × V)) (vs : List (Key × Value)) (en : List DictEntry), RpK X.K F kvs es → KV kvs vs → Pairs (mixKind X.prog X.w) en vs → PyData.showableKv es = true → (∀ t ∈ PyData.shownKv es, t.length ≤ sizeLine) →
    ∃ as bs b, ReadsAll s.heap (en.map (·.key)) (es.map (·.1)) as ∧ ReadsAll s.heap (en.map (·.val)) (es.map (·.2)) bs ∧ ReadAtMost s.heap (PyData.depthKv es) b ∧ ReprEntriesK X.prog X.w b s.heap (PyData.depthKv es) en (PyData.shownKv es)
  | [], _, _, _, h, r, p, _, _ => by
    cases h; cases r; cases p
    exact ⟨[], [], [], .nil, .nil, (fun _ h => nomatch h), by simp only [PyData.shownKv]; exact .nil⟩
  | (_, d) :: es, _, _, _, h, r, p, hs, hz => by
    cases h with
    | cons h1 h2 =>
      cases r with
      | cons r1 r2 =>
        cases p with
        | cons p1 p2 p3 =>
          rename_i k v kvs' q vs' en' es'
          obtain ⟨rk, rv⟩ := r1
          have rk : k = q.1 := rk
          have rv : RelV v q.2 := rv
          have hs' : ((keyD k).showable = true ∧ d.showable = true) ∧ PyData.showableKv es = true := by simpa [PyData.showableKv] using hs
          have hz1 : ((keyD k).shown ++ ": " ++ d.shown).length ≤ sizeLine := hz _ (by simp only [PyData.shownKv]; exact List.mem_cons_self ..)
          rw [strLen_append, strLen_append] at hz1
          have p1' : keyIs k en'.key = true := by rw [rk]; exact p1
          obtain ⟨a1, b1, q1, hb1, k1⟩ := rp_repr I e d _ _ h1 (show RelV v en'.val by rw [p2]; exact rv) hs'.1.2 (by omega)
          obtain ⟨a2, a3, b2, q2, q3, hb2, k2⟩ := rpk_repr I e es _ _ _ h2 r2 p3 hs'.2 (fun t ht => hz t (by simp only [PyData.shownKv]; exact List.mem_cons_of_mem _ ht))
          have kk : ReprK X.prog X.w (b1 ++ b2) s.heap (max (max (keyD k).depth d.depth) (PyData.depthKv es)) en'.key (keyD k).shown := by
            have g := hs'.1.1
            rcases keyIs_shape p1' with ⟨i, t, e1, e2⟩ | ⟨x, t, e1, e2⟩
            · rw [e2]
              rw [e1] at g ⊢
              simp only [keyD, PyData.shown]
              exact .of_is (ReprIs.int t (by simpa [keyD, PyData.showable] using g)) _ _ _
            · rw [e2]
              rw [e1] at hz1 ⊢
              simp only [keyD, PyData.shown] at hz1 ⊢
              exact .of_is (ReprIs.str x t (by omega)) _ _ _
          refine ⟨[] ++ a2, a1 ++ a3, b1 ++ b2, .cons (key_reads p1') q2, .cons q1 q3, ?_, ?_⟩
          · intro b hm
            simp only [PyData.depthKv]
            rcases List.mem_append.mp hm with hm | hm
            · obtain ⟨d', as', r', hd'⟩ := hb1 b hm
              exact ⟨d', as', r', by omega⟩
            · obtain ⟨d', as', r', hd'⟩ := hb2 b hm
              exact ⟨d', as', r', by omega⟩
          · simp only [PyData.depthKv, PyData.shownKv]
            have kv : ReprK X.prog X.w (b1 ++ b2) s.heap (max (max (keyD k).depth d.depth) (PyData.depthKv es)) en'.val d.shown := (k1.more fun b hb => List.mem_append_left _ hb).level_le (by omega)
            have kr : ReprEntriesK X.prog X.w (b1 ++ b2) s.heap (max (max (keyD k).depth d.depth) (PyData.depthKv es)) es' (PyData.shownKv es) := rek_more (fun b hb => List.mem_append_right _ hb) (by omega) k2
            first
              | exact .cons kk kv kr
              | (rw [Nat.max_assoc] at kk kv kr; exact .cons kk kv kr)
end
/-! ### repr -/
theorem shows_x (I : Inv X pins σ H s) (e : Ex F H) {a : Addr} {d : Da} {v : V} (hr : Rp X.K F v d) (r : RelV v (.ref a)) (hs : d.showable = true) (hz : d.shown.length ≤ sizeLine) : ∃ T idr, ShowsBy X.prog X.w s.heap a d T idr := by
  cases hr with
  | non => cases r
  | bl b => cases r
  | int i => obtain ⟨t, r⟩ := r; cases r
  | str x => obtain ⟨t, r⟩ := r; cases r
  | lst hf ha =>
    rename_i xs ds
    cases r
    obtain ⟨its, rv, ⟨⟨cls, dd, data, sls⟩, n, ho, hc, hdn, hdt⟩, hlen⟩ := I.list (.inl (.inl (e _ _ hf)))
    simp only at hc hdt
    subst hc hdt
    have hz' : (listText (PyData.shownAll ds)).length ≤ sizeLine := by simpa only [PyData.shown] using hz
    obtain ⟨as, bs, h4, hb, hk⟩ := rps_repr I e ds xs its ha rv (by simpa [PyData.showable] using hs) (fun t ht => Nat.le_trans (listText_mem_le ht) hz')
    have r : Reads s.heap (.ref a) (.list ds) _ := .list ho rfl rfl h4
    have hna : a ∉ bs := not_mem_of_deeper r (by simp only [PyData.depth]; omega) hb
    refine ⟨"list", "list.__repr__", PySem.F.slot_list_repr.toG, PySem.F.slot_list_str, PySem.F.slot_list_format, fun s hk0 => ⟨_, hk0 _ _ ho, rfl⟩, fun A E s Q hg hu hk0 hQ => ?_⟩
    simp only [PyData.depth] at hu
    simp only [PyData.shown] at hQ
    cases its with
    | nil =>
      cases h4
      simp only [PyData.shownAll, listText_nil] at hQ
      exact call_list_repr_empty ⟨_, hk0 _ _ ho, rfl⟩ (hk0 _ _ ho) rfl (hQ s.heap _ _ fun _ _ e => e)
    | cons y l => exact call_list_reprK ho rfl rfl hna (by simpa using hk.length_eq) (fun i y e => hk.item i y (by simpa using e)) hg (fun b _ => Clear.nil b) hu hk0 hQ hz'
  | tup hf ha =>
    rename_i xs ds
    cases r
    obtain ⟨its, rv, ⟨o, ho, hc, n, hd⟩, hlen⟩ := I.tuple (ex_t e hf)
    have hz' : (tupleText (PyData.shownAll ds)).length ≤ sizeLine := by simpa only [PyData.shown] using hz
    obtain ⟨as, bs, h4, hb, hk⟩ := rps_repr I e ds xs its ha rv (by simpa [PyData.showable] using hs) (fun t ht => Nat.le_trans (tupleText_mem_le ht) hz')
    have r : Reads s.heap (.ref a) (.tuple ds) _ := .tuple ho hc hd h4
    have hna : a ∉ bs := not_mem_of_deeper r (by simp only [PyData.depth]; omega) hb
    refine ⟨"tuple", "tuple.__repr__", PySem.F.slot_tuple_repr, PySem.F.slot_tuple_str, PySem.F.slot_tuple_format, fun s hk0 => ⟨o, hk0 _ _ ho, hc⟩, fun A E s Q hg hu hk0 hQ => ?_⟩
    simp only [PyData.depth] at hu
    simp only [PyData.shown] at hQ
    exact call_tuple_reprK ho hc hd hna hk hg (fun b _ => Clear.nil b) hu hk0 hQ hz'
  | dct hf ha =>
    rename_i kvs es
    cases r
    obtain ⟨hl, hsys, vs, hkv, o, en, ep, ho, hx, hd, _, hp, _⟩ := dk_rd I.hok (ex_rd e hf)
    have hz' : (dictText (PyData.shownKv es)).length ≤ sizeLine := by simpa only [PyData.shown] using hz
    obtain ⟨as, bs, b, h4, h5, hb, hk⟩ := rpk_repr I e es kvs vs en.toList ha hkv hp (by simpa [PyData.showable] using hs) (fun t ht => Nat.le_trans (dictText_mem_le ht) hz')
    have r : Reads s.heap (.ref a) (.dict es) _ := .dict ho hx.1 hd h4 h5
    have hna : a ∉ b := not_mem_of_deeper r (by simp only [PyData.depth]; omega) hb
    refine ⟨"dict", "dict.__repr__", PySem.F.slot_dict_repr, PySem.F.slot_dict_str, PySem.F.slot_dict_format, fun s hk0 => ⟨o, hk0 _ _ ho, hx.1⟩, fun A E s Q hg hu hk0 hQ => ?_⟩
    simp only [PyData.depth] at hu
    simp only [PyData.shown] at hQ
    exact call_dict_reprK ho hx.1 hd hsys hna hk hg (fun b _ => Clear.nil b) hu hk0 hQ hz'
end
def cReprX : CF := fun rs post => match rs with
  | [.val d] => ShX d ∧ post (.str d.shown)
  | _ => False
section
variable {X : Cx}
theorem call_reprX (hu : X.A.units + 64 < cLine) (hg : X.A.guards = some []) : CallR X (.builtin "repr") (fun xs H Q => ∃ x d F, xs = [x] ∧ Ex F H ∧ Rp X.K F x d ∧ ShX d ∧ Q (.str d.shown) H) := by
  intro pins s σ H xs us Q I r h
  obtain ⟨x, d, F, rfl, ef, hd, hs, q⟩ := h
  obtain ⟨u, rfl, ru⟩ := r.one
  have hz := hs.len
  have key : ∀ a, u = .ref a → wpAny (model X.prog X.w) X.A (call (.builtin "repr") [u]) (EP X pins σ Q) X.xe s := fun a e => by
    subst e
    obtain ⟨T, idr, S⟩ := shows_x I ef hd ru hs.sh hz
    exact call_repr_slot (by omega) (S.typeIs s fun _ _ e => e) S.slotRepr (S.call X.A.in1 X.xe s _ hg (by show X.A.units + 1 + d.depth < cLine; have := hs.dp; omega) (fun _ _ e => e) fun h' u tk hk => ⟨_, _, rfl, ⟨.str _, H, I.kept hk, ⟨_, rfl⟩, q⟩⟩)
  cases hd with
  | non => cases ru; exact P.repr_of_none ⟨.str _, H, I.tok _, ⟨_, rfl⟩, q⟩
  | bl b => cases ru; exact P.repr_of_bool ⟨.str _, H, I.tok _, ⟨_, rfl⟩, q⟩
  | int i =>
    obtain ⟨t, rfl⟩ := ru
    exact P.repr_of_int (of_decide_eq_true (show decide (i.natAbs.log2 < 1920) = true from hs.sh)) ⟨.str _, H, I.tok _, ⟨_, rfl⟩, q⟩
  | str z =>
    obtain ⟨t, rfl⟩ := ru
    exact P.repr_of_str ⟨.str _, H, I.tok _, ⟨_, rfl⟩, q⟩ hz
  | lst sq ha => exact key _ (by cases ru; rfl)
  | tup sq ha => exact key _ (by cases ru; rfl)
  | dct sq ha => exact key _ (by cases ru; rfl)
theorem ok_reprX {K : Fg} : CallOk K (fun xs H Q => ∃ x d F, xs = [x] ∧ Ex F H ∧ Rp K F x d ∧ ShX d ∧ Q (.str d.shown) H) cReprX := fun F H a fu vs rs post Q e t hf k => by
  unfold cReprX at hf
  split at hf
  · rename_i d
    obtain ⟨v, rfl, r⟩ := t.v1
    exact ⟨v, d, F, rfl, e, r, hf.1, k _ _ H F hf.2 (Gr.refl e) (.str _)⟩
  · exact hf.elim
variable {p pos : Pos} {e : Expr} {tr : DA} {k : Nat}
theorem e_reprX (hr : Room k X.A) (hgd : X.A.guards = some []) (hg : Gl X "repr") (hm : X.mg "repr" = none) (ha : PA X [e] (upA X.K tr)) (he : starEach [e] X.env = (false, eval e X.env) :: starEach [] X.env := by rfl) : PE X (.Call (.Name "repr" p) [e] [] pos) (up X.K (dCB cReprX tr)) :=
  e_callB (call_reprX hr.units hgd) ok_reprX hg hm (by decide +kernel) ha (by decide) (by decide) he rfl
end
end Z

namespace Z
open L2 PySem PySem.Spec PyProof.Rows
/-! ### a root beside fractions -/
theorem sq_lt' {x y : Int} (hx : 0 ≤ x) (hy : 0 ≤ y) (h : x * x < y * y) : x < y := by
  rcases Int.lt_or_le x y with z | z
  · exact z
  · have := sq_le hy z
    omega
theorem sq_le' {x y : Int} (hx : 0 ≤ x) (hy : 0 ≤ y) (h : x * x ≤ y * y) : x ≤ y := by
  rcases Int.lt_or_le y x with z | z
  · have := Int.mul_le_mul z z (by omega) hx
    have e : (y + 1) * (y + 1) = y * y + 2 * y + 1 := by grind
    omega
  · exact z
theorem p4n (e : Int) : (2 : Int) ^ (2 * e).toNat = 2 ^ e.toNat * 2 ^ e.toNat ∧ (2 : Int) ^ (0 - 2 * e).toNat = 2 ^ (-e).toNat * 2 ^ (-e).toNat := by
  rw [← Int.pow_add, ← Int.pow_add]
  constructor <;> congr 1 <;> omega
/-- t / u at the root's side, told by a fraction a / b: A = a * 2 ^ -e, B = b * 2 ^ e -/
structure Side (n d a b A B e : Int) : Prop where
  hA : A = a * 2 ^ (-e).toNat
  hB : B = b * 2 ^ e.toNat
  n0 : 0 < n
  d0 : 0 < d
  a0 : 0 ≤ a
  b0 : 0 < b
section
variable {n d a b A B e t u : Int}
theorem Side.A0 (s : Side n d a b A B e) : 0 ≤ A := by rw [s.hA]; exact Int.mul_nonneg s.a0 (Int.le_of_lt (pow2_pos _))
theorem Side.B0 (s : Side n d a b A B e) : 0 < B := by rw [s.hB]; exact Int.mul_pos s.b0 (pow2_pos _)
/-- the two squares, told by cmR's two sides -/
theorem Side.sq (s : Side n d a b A B e) : (t * B) * (t * B) * d = (d * t * t * 2 ^ (2 * e).toNat) * (b * b) ∧ (u * A) * (u * A) * d = (u * u * 2 ^ (0 - 2 * e).toNat) * (a * a * d) := by
  rw [s.hA, s.hB, (p4n e).1, (p4n e).2]
  constructor <;> grind
/-- the fraction is above the root -/
theorem Side.gt (s : Side n d a b A B e) (h : n * (b * b) < a * a * d) (u0 : 0 < u) (t0 : 0 ≤ t) (c : 0 ≤ cmR n d e t u) : t * B < u * A := by
  rw [cmR_nn] at c
  have hd := s.d0
  have bb := Int.mul_pos s.b0 s.b0
  refine sq_lt' (Int.mul_nonneg t0 (Int.le_of_lt s.B0)) (Int.mul_nonneg (Int.le_of_lt u0) s.A0) (Int.lt_of_mul_lt_mul_right (a := d) ?_ (Int.le_of_lt hd))
  rw [(s.sq (t := t) (u := u)).1, (s.sq (t := t) (u := u)).2]
  have p := Int.mul_pos (Int.mul_pos u0 u0) (pow2_pos (0 - 2 * e).toNat)
  have q1 := Int.mul_le_mul_of_nonneg_right c (Int.le_of_lt bb)
  have q2 := Int.mul_lt_mul_of_pos_left h p
  have e1 : n * u * u * 2 ^ (0 - 2 * e).toNat * (b * b) = u * u * 2 ^ (0 - 2 * e).toNat * (n * (b * b)) := by grind
  omega
/-- the fraction is not above the root -/
theorem Side.le (s : Side n d a b A B e) (h : a * a * d ≤ n * (b * b)) (u0 : 0 < u) (t0 : 0 ≤ t) (c : cmR n d e t u ≤ 0) : u * A ≤ t * B := by
  have c : n * u * u * 2 ^ (0 - 2 * e).toNat ≤ d * t * t * 2 ^ (2 * e).toNat := by
    have := cmR_pos (n := n) (d := d) (e := e) (t := t) (b := u)
    omega
  have hd := s.d0
  have bb := Int.mul_pos s.b0 s.b0
  refine sq_le' (Int.mul_nonneg (Int.le_of_lt u0) s.A0) (Int.mul_nonneg t0 (Int.le_of_lt s.B0)) (Int.le_of_mul_le_mul_right (a := d) ?_ hd)
  rw [(s.sq (t := t) (u := u)).1, (s.sq (t := t) (u := u)).2]
  have p := Int.mul_pos (Int.mul_pos u0 u0) (pow2_pos (0 - 2 * e).toNat)
  have q1 := Int.mul_le_mul_of_nonneg_right c (Int.le_of_lt bb)
  have q2 := Int.mul_le_mul_of_nonneg_left h (Int.le_of_lt p)
  have e1 : n * u * u * 2 ^ (0 - 2 * e).toNat * (b * b) = u * u * 2 ^ (0 - 2 * e).toNat * (n * (b * b)) := by grind
  omega
/-- the fraction is below the root -/
theorem Side.lt (s : Side n d a b A B e) (h : a * a * d < n * (b * b)) (u0 : 0 < u) (t0 : 0 ≤ t) (c : cmR n d e t u ≤ 0) : u * A < t * B := by
  have c : n * u * u * 2 ^ (0 - 2 * e).toNat ≤ d * t * t * 2 ^ (2 * e).toNat := by
    have := cmR_pos (n := n) (d := d) (e := e) (t := t) (b := u)
    omega
  have hd := s.d0
  have bb := Int.mul_pos s.b0 s.b0
  refine sq_lt' (Int.mul_nonneg (Int.le_of_lt u0) s.A0) (Int.mul_nonneg t0 (Int.le_of_lt s.B0)) (Int.lt_of_mul_lt_mul_right (a := d) ?_ (Int.le_of_lt hd))
  rw [(s.sq (t := t) (u := u)).1, (s.sq (t := t) (u := u)).2]
  have p := Int.mul_pos (Int.mul_pos u0 u0) (pow2_pos (0 - 2 * e).toNat)
  have q1 := Int.mul_le_mul_of_nonneg_right c (Int.le_of_lt bb)
  have q2 := Int.mul_lt_mul_of_pos_left h p
  have e1 : n * u * u * 2 ^ (0 - 2 * e).toNat * (b * b) = u * u * 2 ^ (0 - 2 * e).toNat * (n * (b * b)) := by grind
  omega
/-- the fraction is not below the root -/
theorem Side.ge (s : Side n d a b A B e) (h : n * (b * b) ≤ a * a * d) (u0 : 0 < u) (t0 : 0 ≤ t) (c : 0 ≤ cmR n d e t u) : t * B ≤ u * A := by
  rw [cmR_nn] at c
  have hd := s.d0
  have bb := Int.mul_pos s.b0 s.b0
  refine sq_le' (Int.mul_nonneg t0 (Int.le_of_lt s.B0)) (Int.mul_nonneg (Int.le_of_lt u0) s.A0) (Int.le_of_mul_le_mul_right (a := d) ?_ hd)
  rw [(s.sq (t := t) (u := u)).1, (s.sq (t := t) (u := u)).2]
  have p := Int.mul_pos (Int.mul_pos u0 u0) (pow2_pos (0 - 2 * e).toNat)
  have q1 := Int.mul_le_mul_of_nonneg_right c (Int.le_of_lt bb)
  have q2 := Int.mul_le_mul_of_nonneg_left h (Int.le_of_lt p)
  have e1 : n * u * u * 2 ^ (0 - 2 * e).toNat * (b * b) = u * u * 2 ^ (0 - 2 * e).toNat * (n * (b * b)) := by grind
  omega
/-- a fraction within the root's cell -/
theorem cell_in {w k : Int} {T : Bool → Th} (hT : ∀ b, (T b).Ok) (a0 : 0 < a) (b0 : 0 < b) (hw : 1 ≤ w) (k1 : 2 ^ (w - 1).toNat ≤ k) (k2 : k < 2 ^ w.toNat) (h1 : k * (b * 2 ^ e.toNat) ≤ a * 2 ^ (-e).toNat) (h2 : a * 2 ^ (-e).toNat < (k + 1) * (b * 2 ^ e.toNat)) :
    thrI a b w T = powI (k + (if (k * (T (decide (k % 2 = 1))).d + (T (decide (k % 2 = 1))).n) * (b * 2 ^ e.toNat) < (T (decide (k % 2 = 1))).d * (a * 2 ^ (-e).toNat) ∨ ((k * (T (decide (k % 2 = 1))).d + (T (decide (k % 2 = 1))).n) * (b * 2 ^ e.toNat) = (T (decide (k % 2 = 1))).d * (a * 2 ^ (-e).toNat) ∧ (T (decide (k % 2 = 1))).up = true) then 1 else 0)) e := by
  have hB := Int.mul_pos b0 (pow2_pos e.toNat)
  have ek : a * 2 ^ (-e).toNat / (b * 2 ^ e.toNat) = k := by
    have x1 := (Int.le_ediv_iff_mul_le hB).mpr h1
    have x2 := (Int.ediv_lt_iff_lt_mul hB).mpr h2
    omega
  obtain ⟨c1, c2⟩ := cell_at (p := e.toNat) (q := (-e).toNat) a0 b0 hw (by rw [ek]; exact k1) (by rw [ek]; exact k2)
  rw [ek] at c1
  have ee : ((e.toNat : Nat) : Int) - ((-e).toNat : Nat) = e := by omega
  rw [ee] at c1
  unfold thrI
  rw [c1, c2]
  show powI (k + (if Abv _ _ (T (decide (k % 2 = 1))) then 1 else 0)) e = _
  have hm : a * 2 ^ (-e).toNat % (b * 2 ^ e.toNat) = a * 2 ^ (-e).toNat - k * (b * 2 ^ e.toNat) := by
    rw [Int.emod_def, ek, Int.mul_comm k]
  have ia : Abv (low (a * 2 ^ (-e).toNat % (b * 2 ^ e.toNat)) (b * 2 ^ e.toNat)).1 (low (a * 2 ^ (-e).toNat % (b * 2 ^ e.toNat)) (b * 2 ^ e.toNat)).2 (T (decide (k % 2 = 1))) ↔
      ((k * (T (decide (k % 2 = 1))).d + (T (decide (k % 2 = 1))).n) * (b * 2 ^ e.toNat) < (T (decide (k % 2 = 1))).d * (a * 2 ^ (-e).toNat) ∨ ((k * (T (decide (k % 2 = 1))).d + (T (decide (k % 2 = 1))).n) * (b * 2 ^ e.toNat) = (T (decide (k % 2 = 1))).d * (a * 2 ^ (-e).toNat) ∧ (T (decide (k % 2 = 1))).up = true)) := by
    rw [abv_low hB, hm]
    generalize T (decide (k % 2 = 1)) = t
    generalize a * 2 ^ (-e).toNat = A
    generalize b * 2 ^ e.toNat = B
    unfold Abv
    have e1 : (A - k * B) * t.d - t.n * B = t.d * A - (k * t.d + t.n) * B := by grind
    constructor
    · rintro (h | ⟨h, hu⟩)
      · exact .inl (by omega)
      · exact .inr ⟨by omega, hu⟩
    · rintro (h | ⟨h, hu⟩)
      · exact .inl (by omega)
      · exact .inr ⟨by omega, hu⟩
  simp only [ia]
end
/-- a fraction that has the width -/
theorem thr_fit {a b w k e : Int} {T : Bool → Th} (hT : ∀ b, (T b).Ok) (a0 : 0 < a) (b0 : 0 < b) (hw : 1 ≤ w) (k0 : 0 < k) (k1 : 2 ^ (w - 1).toNat ≤ k) (k2 : k ≤ 2 ^ w.toNat) (h : a * 2 ^ (-e).toNat = k * (b * 2 ^ e.toNat)) : thrI a b w T = powI k e := by
  obtain ⟨l1, l2, l3, _, _⟩ := low_pos a0 b0
  obtain ⟨e1, e2⟩ := cell_lowX a0 b0 hw
  have lv := low_val (x := a) b0
  have ep : powI k e = ((low a b).1, (low a b).2) := by
    refine pow_is (p := e.toNat) (q := (-e).toNat) (by omega) k0 l2 l3 ?_
    refine Int.eq_of_mul_eq_mul_right (a := b) (by omega) ?_
    calc (low a b).1 * 2 ^ (-e).toNat * b = ((low a b).1 * b) * 2 ^ (-e).toNat := by grind
      _ = a * (low a b).2 * 2 ^ (-e).toNat := by rw [lv]
      _ = (a * 2 ^ (-e).toNat) * (low a b).2 := by grind
      _ = k * (b * 2 ^ e.toNat) * (low a b).2 := by rw [h]
      _ = k * 2 ^ e.toNat * (low a b).2 * b := by grind
  have ft := pow_fits (s := k) (e := e) hw k1 k2
  rw [ep] at ft
  have st := thr_self hT l1 l2 l3 hw ft
  rw [ep]
  have : thrI a b w T = thrI (low a b).1 (low a b).2 w T := by
    unfold thrI
    rw [e1, e2]
  rw [this, st]
section
variable {n d w k e a b : Int} {T : Bool → Th}
/-- the root is this fraction -/
theorem root_exact (hT : ∀ b, (T b).Ok) (n0 : 0 < n) (d0 : 0 < d) (a0 : 0 < a) (b0 : 0 < b) (hw : 1 ≤ w) (rc : RC n d w k e) (h : a * a * d = n * (b * b)) : rootI n d e k T = thrI a b w T := by
  have s : Side n d a b _ _ e := ⟨rfl, rfl, n0, d0, Int.le_of_lt a0, b0⟩
  have k0 : 0 < k := Int.lt_of_lt_of_le (pow2_pos _) rc.lo
  have c1 : 0 ≤ cmR n d e k 1 := by
    rw [cmR_nn, Int.mul_one, Int.mul_one, show d * k * k * 2 ^ (2 * e).toNat = k * k * (d * 2 ^ (2 * e).toNat) by grind]
    exact rc.le
  have c2 : cmR n d e (k + 1) 1 ≤ 0 := by
    have := cmR_pos (n := n) (d := d) (e := e) (t := k + 1) (b := 1)
    rw [Int.mul_one, Int.mul_one, show d * (k + 1) * (k + 1) * 2 ^ (2 * e).toNat = (k + 1) * (k + 1) * (d * 2 ^ (2 * e).toNat) by grind] at this
    have := rc.lt
    omega
  have c3 : cmR n d e (k + 1) 1 ≠ 0 := by
    have := cmR_zero (n := n) (d := d) (e := e) (t := k + 1) (b := 1)
    rw [Int.mul_one, Int.mul_one, show d * (k + 1) * (k + 1) * 2 ^ (2 * e).toNat = (k + 1) * (k + 1) * (d * 2 ^ (2 * e).toNat) by grind] at this
    have := rc.lt
    omega
  have h1 := s.ge (Int.le_of_eq h.symm) (by decide : (0 : Int) < 1) (Int.le_of_lt k0) c1
  have h2 : 1 * (a * 2 ^ (-e).toNat) < (k + 1) * (b * 2 ^ e.toNat) := by
    rcases Int.lt_or_le (1 * (a * 2 ^ (-e).toNat)) ((k + 1) * (b * 2 ^ e.toNat)) with z | z
    · exact z
    · exfalso
      have q1 := s.le (Int.le_of_eq h) (by decide : (0 : Int) < 1) (by omega : (0 : Int) ≤ k + 1) c2
      have q2 : 1 * (a * 2 ^ (-e).toNat) = (k + 1) * (b * 2 ^ e.toNat) := by omega
      have q3 := (s.sq (t := k + 1) (u := 1))
      rw [q2] at q3
      have bb := Int.mul_pos b0 b0
      have q4 : d * (k + 1) * (k + 1) * 2 ^ (2 * e).toNat * (b * b) = n * 1 * 1 * 2 ^ (0 - 2 * e).toNat * (b * b) := by
        rw [← q3.1, q3.2, h]
        grind
      exact c3 (cmR_zero.mpr (Int.eq_of_mul_eq_mul_right (by omega) q4).symm)
  rw [Int.one_mul] at h1 h2
  rw [cell_in hT a0 b0 hw rc.lo rc.hi h1 h2]
  have main : UpR n d e k T ↔ ((k * (T (decide (k % 2 = 1))).d + (T (decide (k % 2 = 1))).n) * (b * 2 ^ e.toNat) < (T (decide (k % 2 = 1))).d * (a * 2 ^ (-e).toNat) ∨ ((k * (T (decide (k % 2 = 1))).d + (T (decide (k % 2 = 1))).n) * (b * 2 ^ e.toNat) = (T (decide (k % 2 = 1))).d * (a * 2 ^ (-e).toNat) ∧ (T (decide (k % 2 = 1))).up = true)) := ?_
  · unfold rootI
    simp only [main]
  unfold UpR
  obtain ⟨t0, t1, t2, t3, _⟩ := hT (decide (k % 2 = 1))
  generalize T (decide (k % 2 = 1)) = t at *
  have kt : 0 ≤ k * t.d + t.n := by
    have := Int.mul_nonneg (Int.le_of_lt k0) (Int.le_of_lt t2)
    omega
  have iz : cmR n d e k 1 = 0 → a * 2 ^ (-e).toNat = k * (b * 2 ^ e.toNat) := fun z => by
    have := s.le (Int.le_of_eq h) (by decide : (0 : Int) < 1) (Int.le_of_lt k0) (by omega)
    rw [Int.one_mul] at this
    omega
  have ig := fun c => s.ge (t := k * t.d + t.n) (u := t.d) (Int.le_of_eq h.symm) t2 kt c
  have il := fun c => s.le (t := k * t.d + t.n) (u := t.d) (Int.le_of_eq h) t2 kt c
  have gt : 0 < cmR n d e (k * t.d + t.n) t.d → (k * t.d + t.n) * (b * 2 ^ e.toNat) < t.d * (a * 2 ^ (-e).toNat) := fun c => by
    have q1 := ig (by omega)
    rcases Int.lt_or_le ((k * t.d + t.n) * (b * 2 ^ e.toNat)) (t.d * (a * 2 ^ (-e).toNat)) with z | z
    · exact z
    · exfalso
      have q2 : (k * t.d + t.n) * (b * 2 ^ e.toNat) = t.d * (a * 2 ^ (-e).toNat) := by omega
      have q3 := (s.sq (t := k * t.d + t.n) (u := t.d))
      rw [← q2] at q3
      have bb := Int.mul_pos b0 b0
      have q4 : d * (k * t.d + t.n) * (k * t.d + t.n) * 2 ^ (2 * e).toNat * (b * b) = n * t.d * t.d * 2 ^ (0 - 2 * e).toNat * (b * b) := by
        rw [← q3.1, q3.2, h]
        grind
      have := cmR_zero.mpr (Int.eq_of_mul_eq_mul_right (by omega) q4).symm
      omega
  have lt : cmR n d e (k * t.d + t.n) t.d < 0 → t.d * (a * 2 ^ (-e).toNat) < (k * t.d + t.n) * (b * 2 ^ e.toNat) := fun c => by
    have q1 := il (by omega)
    rcases Int.lt_or_le (t.d * (a * 2 ^ (-e).toNat)) ((k * t.d + t.n) * (b * 2 ^ e.toNat)) with z | z
    · exact z
    · exfalso
      have q2 : (k * t.d + t.n) * (b * 2 ^ e.toNat) = t.d * (a * 2 ^ (-e).toNat) := by omega
      have q3 := (s.sq (t := k * t.d + t.n) (u := t.d))
      rw [← q2] at q3
      have bb := Int.mul_pos b0 b0
      have q4 : d * (k * t.d + t.n) * (k * t.d + t.n) * 2 ^ (2 * e).toNat * (b * b) = n * t.d * t.d * 2 ^ (0 - 2 * e).toNat * (b * b) := by
        rw [← q3.1, q3.2, h]
        grind
      have := cmR_zero.mpr (Int.eq_of_mul_eq_mul_right (by omega) q4).symm
      omega
  have B0 := s.B0
  by_cases hz : cmR n d e k 1 = 0
  · refine ⟨fun q => absurd hz q.1, fun q => absurd q ?_⟩
    rw [iz hz]
    have nB := Int.mul_nonneg t0 (Int.le_of_lt B0)
    have e1 : (k * t.d + t.n) * (b * 2 ^ e.toNat) = t.d * (k * (b * 2 ^ e.toNat)) + t.n * (b * 2 ^ e.toNat) := by grind
    rintro (q | ⟨q, qu⟩)
    · omega
    · have : t.n * (b * 2 ^ e.toNat) = 0 := by omega
      rcases Int.mul_eq_zero.mp this with z | z
      · rw [t3 z] at qu
        cases qu
      · omega
  · have ii : (0 < cmR n d e (k * t.d + t.n) t.d ∨ cmR n d e (k * t.d + t.n) t.d = 0 ∧ t.up = true) ↔ ((k * t.d + t.n) * (b * 2 ^ e.toNat) < t.d * (a * 2 ^ (-e).toNat) ∨ (k * t.d + t.n) * (b * 2 ^ e.toNat) = t.d * (a * 2 ^ (-e).toNat) ∧ t.up = true) := by
      rcases Int.lt_trichotomy (cmR n d e (k * t.d + t.n) t.d) 0 with c | c | c
      · have := lt c
        constructor
        · rintro (q | q) <;> omega
        · rintro (q | q) <;> omega
      · have q1 := ig (by omega)
        have q2 := il (by omega)
        constructor
        · rintro (q | q)
          · omega
          · exact .inr ⟨by omega, q.2⟩
        · rintro (q | q)
          · omega
          · exact .inr ⟨c, q.2⟩
      · have := gt c
        exact ⟨fun _ => .inl this, fun _ => .inl c⟩
    exact ⟨fun q => ii.mp q.2, fun q => ⟨hz, ii.mpr q⟩⟩
/-- the root lies strictly between two fractions next to each other -/
theorem root_between {m : Int} (hT : ∀ b, (T b).Ok) (n0 : 0 < n) (d0 : 0 < d) (m0 : 0 < m) (hw : 1 ≤ w) (rc : RC n d w k e) (he : 0 ≤ e + 300) (h1 : m * m * d < n * (d * 2 ^ 300 * (d * 2 ^ 300))) (h2 : n * (d * 2 ^ 300 * (d * 2 ^ 300)) < (m + 1) * (m + 1) * d) :
    rootI n d e k T = thrI m (d * 2 ^ 300) w T ∨ rootI n d e k T = thrI (m + 1) (d * 2 ^ 300) w T := by
  have D0 : 0 < d * 2 ^ 300 := Int.mul_pos d0 (Int.pow_pos (by decide))
  have s1 : Side n d m (d * 2 ^ 300) _ _ e := ⟨rfl, rfl, n0, d0, Int.le_of_lt m0, D0⟩
  have s2 : Side n d (m + 1) (d * 2 ^ 300) _ _ e := ⟨rfl, rfl, n0, d0, by omega, D0⟩
  have k0 : 0 < k := Int.lt_of_lt_of_le (pow2_pos _) rc.lo
  have c1 : 0 ≤ cmR n d e k 1 := by
    rw [cmR_nn, Int.mul_one, Int.mul_one, show d * k * k * 2 ^ (2 * e).toNat = k * k * (d * 2 ^ (2 * e).toNat) by grind]
    exact rc.le
  have c2 : cmR n d e (k + 1) 1 ≤ 0 := by
    have := cmR_pos (n := n) (d := d) (e := e) (t := k + 1) (b := 1)
    rw [Int.mul_one, Int.mul_one, show d * (k + 1) * (k + 1) * 2 ^ (2 * e).toNat = (k + 1) * (k + 1) * (d * 2 ^ (2 * e).toNat) by grind] at this
    have := rc.lt
    omega
  have u2 := s2.gt h2 (by decide : (0 : Int) < 1) (Int.le_of_lt k0) c1
  have l1 := s1.lt h1 (by decide : (0 : Int) < 1) (by omega : (0 : Int) ≤ k + 1) c2
  rw [Int.one_mul] at u2 l1
  -- the ends are multiples of the step
  obtain ⟨f, hf⟩ : ∃ f : Nat, (-e).toNat + f = 300 + e.toNat := ⟨(300 + e).toNat, by omega⟩
  have step : d * 2 ^ 300 * 2 ^ e.toNat = d * 2 ^ f * 2 ^ (-e).toNat := by
    rw [Int.mul_assoc, ← Int.pow_add, Int.mul_assoc, ← Int.pow_add]
    congr 2
    omega
  have P0 := pow2_pos (-e).toNat
  have g1 : k * (d * 2 ^ 300 * 2 ^ e.toNat) ≤ m * 2 ^ (-e).toNat := by
    rw [step, ← Int.mul_assoc] at u2 ⊢
    have := Int.lt_of_mul_lt_mul_right u2 (Int.le_of_lt P0)
    exact Int.mul_le_mul_of_nonneg_right (by omega) (Int.le_of_lt P0)
  have g2 : (m + 1) * 2 ^ (-e).toNat ≤ (k + 1) * (d * 2 ^ 300 * 2 ^ e.toNat) := by
    rw [step, ← Int.mul_assoc] at l1 ⊢
    have := Int.lt_of_mul_lt_mul_right l1 (Int.le_of_lt P0)
    exact Int.mul_le_mul_of_nonneg_right (by omega) (Int.le_of_lt P0)
  by_cases hu : UpR n d e k T
  · right
    have er : rootI n d e k T = powI (k + 1) e := by unfold rootI; rw [if_pos hu]
    rw [er]
    rcases Int.lt_or_le ((m + 1) * 2 ^ (-e).toNat) ((k + 1) * (d * 2 ^ 300 * 2 ^ e.toNat)) with z | z
    · rw [cell_in hT (by omega) D0 hw rc.lo rc.hi (Int.le_of_lt u2) z, if_pos]
      left
      obtain ⟨t0, t1, t2, t3, _⟩ := hT (decide (k % 2 = 1))
      have kt : 0 ≤ k * (T (decide (k % 2 = 1))).d + (T (decide (k % 2 = 1))).n := by
        have := Int.mul_nonneg (Int.le_of_lt k0) (Int.le_of_lt t2)
        omega
      exact s2.gt h2 t2 kt (by rcases hu.2 with q | q <;> omega)
    · have q : (m + 1) * 2 ^ (-e).toNat = (k + 1) * (d * 2 ^ 300 * 2 ^ e.toNat) := by omega
      exact (thr_fit hT (by omega) D0 hw (by omega) (by have := rc.lo; omega) (by have := rc.hi; omega) q).symm
  · left
    have er : rootI n d e k T = powI k e := by unfold rootI; rw [if_neg hu, Int.add_zero]
    rw [er, cell_in hT m0 D0 hw rc.lo rc.hi g1 l1, if_neg, Int.add_zero]
    intro q
    apply hu
    obtain ⟨t0, t1, t2, t3, _⟩ := hT (decide (k % 2 = 1))
    have kt : 0 ≤ k * (T (decide (k % 2 = 1))).d + (T (decide (k % 2 = 1))).n := by
      have := Int.mul_nonneg (Int.le_of_lt k0) (Int.le_of_lt t2)
      omega
    have ge : (k * (T (decide (k % 2 = 1))).d + (T (decide (k % 2 = 1))).n) * (d * 2 ^ 300 * 2 ^ e.toNat) ≤ (T (decide (k % 2 = 1))).d * (m * 2 ^ (-e).toNat) := by rcases q with q | q <;> omega
    have pos : 0 < cmR n d e (k * (T (decide (k % 2 = 1))).d + (T (decide (k % 2 = 1))).n) (T (decide (k % 2 = 1))).d := by
      rcases Int.lt_or_le 0 (cmR n d e (k * (T (decide (k % 2 = 1))).d + (T (decide (k % 2 = 1))).n) (T (decide (k % 2 = 1))).d) with z | z
      · exact z
      · have := s1.lt h1 t2 kt z
        omega
    refine ⟨fun z => ?_, .inl pos⟩
    have := s1.lt h1 (by decide : (0 : Int) < 1) (Int.le_of_lt k0) (by omega)
    rw [Int.one_mul] at this
    omega
end
end Z

namespace Z
open L2 PySem PySem.Spec PyProof.Rows
open Evl (Ex ex_l ex_t ex_rd fresh_back)
/-! ### xs[::-1] -/
def dRevL (ta : DE) : DE := fun g Q => ta g fun x g1 => match x with
  | .val (.list ds) => Q (.val (.list ds.reverse)) g1
  | _ => False
theorem Rps.app2 {K : Fg} {F : Hp} : ∀ {vs : List V} {ds : List Da} {v : V} {d : Da}, Rps K F vs ds → Rp K F v d → Rps K F (vs ++ [v]) (ds ++ [d])
  | _, _, _, _, .nil, r => .cons r .nil
  | _, _, _, _, .cons a t, r => .cons a (Rps.app2 t r)
theorem Rps.rev {K : Fg} {F : Hp} : ∀ {vs : List V} {ds : List Da}, Rps K F vs ds → Rps K F vs.reverse ds.reverse
  | _, _, .nil => .nil
  | _, _, .cons a t => by
    rw [List.reverse_cons, List.reverse_cons]
    exact Rps.app2 (Rps.rev t) a
section
variable {X : Cx} {e : Expr} {ta : DE} {k : Nat} {p1 p2 p3 pos : Pos}
theorem e_revL (ha : PE X e (up X.K ta)) : PE X (.Subscript e (.Slice none none (some (.UnaryOp .USub (.Constant (.int 1) k p1) p2)) p3) pos) (up X.K (dRevL ta)) := pe_to (pe_revL ha) fun σ H Q q => by
  obtain ⟨c, g, tv, tr, F, ad, post, s, t, k⟩ := q
  refine ⟨c, g, tv, tr, F, ad, _, s, t, fun x g1 v1 H1 F1 a1 t1 s1 => ?_⟩
  cases x with
  | val d =>
    cases d with
    | list ds =>
      have hr : Rp X.K F1 v1 (.list ds) := s1.top
      cases hr with
      | lst sq m =>
        rename_i pp xs
        refine ⟨_, _, rfl, .inl (.inl (s1.eh _ _ sq)), fun q hq => ?_⟩
        have gr := Gr.new (o := .lst xs.reverse) s1.eh hq
        exact k _ g1 _ _ _ a1 t1 ((s1.pop1.grow gr).push (r := .val (.list ds.reverse)) (.lst upd_same (m.rev.up gr.f)))
    | _ => exact t1.elim
  | _ => exact t1.elim
end
/-- x, y, z = e, f, [..]: z an own list -/
def dPar3Z (i j l : Nat) (ta tb : DE) (tl : DL) : DS := fun d g => ta g fun r g1 => tb g1 fun s g2 => tl g2 fun ds g3 => d.nx (((g3.set l (.own ds)).set j (rsv s)).set i (rsv r))
section
variable {X : Cx} {pos : Pos}
theorem s_par3Z {i j l : Nat} {x y z : Str} {a b c : Expr} {ta tb : DE} {tl : DL} {px py pz pt : Pos} {kt k2 : Nat} {pt2 : Pos} (hc : X.calm = true) (hN : X.N.Nodup) (hi : X.N[i]? = some x) (hj : X.N[j]? = some y) (hl : X.N[l]? = some z) (hij : i ≠ j) (hil : i ≠ l) (hjl : j ≠ l)
    (hx : X.env.scope.names.lookup x = some .local) (hy : X.env.scope.names.lookup y = some .local) (hz : X.env.scope.names.lookup z = some .local) (ha : PE X a (up X.K ta)) (hb : PE X b (up X.K tb)) (hcc : PE X c (upL X.K tl))
    (hsw : swappedStores [.Tuple [.Name x px, .Name y py, .Name z pz] kt pt] (.Tuple [a, b, c] k2 pt2) X.env = pure (some [x, y, z]) := by rfl)
    (h1 : swapsWithSole [.Tuple [.Name x px, .Name y py, .Name z pz] kt pt] (.Tuple [a, b, c] k2 pt2) pos.line X.env = pure false := by rfl)
    (n1 : starEach [a, b, c] X.env = (false, eval a X.env) :: starEach [b, c] X.env := by rfl) (n2 : starEach [b, c] X.env = (false, eval b X.env) :: starEach [c] X.env := by rfl) (n3 : starEach [c] X.env = (false, eval c X.env) :: starEach [] X.env := by rfl) :
    PS X (.Assign [.Tuple [.Name x px, .Name y py, .Name z pz] kt pt] (.Tuple [a, b, c] k2 pt2) pos) (upS X.K (dPar3Z i j l ta tb tl)) := ps_to (ps_par3 hc hN hi hj hl hij hil hjl hx hy hz (pa_cons ha (pa_cons hb (pa_cons hcc pa_nil n3) n2) n1) hsw h1) fun D σ H q => by
  obtain ⟨c, g, tv, tr, F, a, d, s, hn, t, k⟩ := q
  refine ⟨c, g, tv, tr, F, a, _, s, t, fun r g1 u H1 F1 a1 t1 s1 => ?_⟩
  refine ⟨c, g1, _, _, F1, a1, _, s1, t1, fun r2 g2 w H2 F2 a2 t2 s2 => ?_⟩
  refine ⟨c, g2, _, _, F2, a2, _, s2, t2, fun ds g3 y H3 F3 a3 t3 s3 n3 => ?_⟩
  refine ⟨u, w, y, rfl, ?_⟩
  rw [List.set_comm _ _ hjl, List.set_comm _ _ hil, List.set_comm _ _ hij]
  exact k.nx _ _ H3 F3 a3 t3 (((s3.setOwn n3 l).set j).set i)
end
/-! ### x = [.. for ..], x never changed -/
section
variable {X : Cx} {elt tg iter : Expr} {ifs : List Expr} {scope : Scope} {own : List (Str × Nat)} {pos spos : Pos} {tw : DW} {t : DG} {tt : DT} {te : DE}
theorem s_asgLc {i : Nat} {y : Str} {py : Pos} (hc : X.calm = true) (hN : X.N.Nodup) (hiy : X.N[i]? = some y) (hl : X.env.scope.names.lookup y = some .local)
    (hsw : swapsWith (.ListComp elt [{ target := tg, iter := iter, ifs := ifs, is_async := 0 }] scope pos) (some (.Name y py)) spos.line X.env = pure true)
    (hi : PI X tg iter (upI X.K tw)) (hb : BlkOk X.N X.env.scope scope own)
    (hg : ∀ s H C cl fp, PG (X.blk s H scope (compEnvC scope cl C X.env) fp) tg (upGw X.K (own.map (·.2)) t)) (ht : ∀ s H C cl fp, PTs (X.blk s H scope (compEnvC scope cl C X.env) fp) ifs (upT X.K tt))
    (he : ∀ s H C cl fp, PE (X.blk s H scope (compEnvC scope cl C X.env) fp) elt (up X.K te)) (hfs : ∀ x, foldedSetIterable iter X.env x = pure x := by intro _; rfl) :
    PS X (.Assign [.Name y py] (.ListComp elt [{ target := tg, iter := iter, ifs := ifs, is_async := 0 }] scope pos) spos) (upS X.K (dAsg (dFz (dLc (own.map (·.2)) tw t tt te)) (dN i))) := ps_to (ps_setLc hc hN hiy hl hsw hi hb hg ht he hfs) fun D σ H q => by
  obtain ⟨c, g, tv, tr, F, a, d, s, hn, q, k⟩ := q
  refine lc_main σ H _ ⟨c, g, tv, tr, F, a, _, s, q, fun ds g1 v H1 F1 a1 t1 s1 n1 => ?_⟩
  obtain ⟨F2, s2⟩ := s1.still n1
  exact k.nx _ _ H1 F2 a1 t1 (s2.set i)
end
/-! ### of three chains none or two pairs differ -/
structure Tri (x y z : Int) : Prop where
  x0 : 0 ≤ x
  y0 : 0 ≤ y
  z0 : 0 ≤ z
  ev : (x + y + z) % 2 = 0
  a : x ≤ y + z
  b : y ≤ x + z
  c : z ≤ x + y
theorem Tri.zero : Tri 0 0 0 := ⟨by decide, by decide, by decide, by decide, by decide, by decide, by decide⟩
theorem Tri.add {x y z x' y' z' : Int} (h : Tri x y z) (h' : Tri x' y' z') : Tri (x + x') (y + y') (z + z') := by
  obtain ⟨a1, a2, a3, a4, a5, a6, a7⟩ := h
  obtain ⟨b1, b2, b3, b4, b5, b6, b7⟩ := h'
  exact ⟨by omega, by omega, by omega, by omega, by omega, by omega, by omega⟩
theorem Tri.one {p q r : Bool} (h : r = (p != q)) : Tri (if p = true then 1 else 0) (if q = true then 1 else 0) (if r = true then 1 else 0) := by
  subst h
  cases p <;> cases q <;> exact ⟨by decide, by decide, by decide, by decide, by decide, by decide, by decide⟩
theorem tri_P {p q r : Int → Bool} {st : Int} : ∀ n : Nat, (∀ x, st ≤ x → x < st + n → r x = (p x != q x)) → Tri (cntP p st n) (cntP q st n) (cntP r st n)
  | 0, _ => Tri.zero
  | n + 1, h => (tri_P n fun x h1 h2 => h x h1 (by omega)).add (Tri.one (h (st + n) (by omega) (by omega)))
theorem tri_2 {p q r : Int → Int → Bool} {b0 a0 : Int} {nb : Nat} : ∀ n : Nat, (∀ a b, a0 ≤ a → a < a0 + n → b0 ≤ b → b < b0 + nb → r a b = (p a b != q a b)) → Tri (cnt2 p b0 nb a0 n) (cnt2 q b0 nb a0 n) (cnt2 r b0 nb a0 n)
  | 0, _ => Tri.zero
  | n + 1, h => (tri_2 n fun a b h1 h2 => h a b h1 (by omega)).add (tri_P nb fun b h1 h2 => h (a0 + n) b (by omega) (by omega) h1 h2)
theorem tri_df {w : Int} {T U V : Bool → Th} {f d x : Int} : decide (DfX w T V f d x) = (decide (DfX w T U f d x) != decide (DfX w U V f d x)) := by
  rw [Bool.eq_iff_iff, decide_eq_true_iff, bne_iff_ne, ne_eq, Bool.eq_iff_iff, decide_eq_true_iff, decide_eq_true_iff]
  unfold DfX Dif
  generalize Abv _ _ (T _) = a
  generalize Abv _ _ (U _) = b
  generalize Abv _ _ (V _) = c
  by_cases a <;> by_cases b <;> by_cases c <;> simp_all
theorem df_self {w : Int} {T : Bool → Th} {f d x : Int} : ¬DfX w T T f d x := fun h => h Iff.rfl
theorem df_comm {w : Int} {T U : Bool → Th} {f d x : Int} : DfX w T U f d x ↔ DfX w U T f d x := ⟨fun h z => h z.symm, fun h z => h z.symm⟩
section
variable {c c' c2 : List (Int × Ru)} {s a b : Int} {u : Bool}
theorem sP_tri (h : Two c c') : sP c c2 s u a b = (sP c c' s u a b != sP c' c2 s u a b) := by
  unfold sP
  rw [← h.w, tri_df (U := (chT c').2)]
  cases decide (0 < resI s u a b) <;> simp
theorem sP_comm (h : Two c c') : sP c' c s u a b = sP c c' s u a b := by
  unfold sP
  rw [← h.w]
  congr 1
  exact decide_eq_decide.mpr df_comm
theorem sP_self : sP c c s u a b = false := by
  unfold sP
  rw [decide_eq_false df_self, Bool.and_false]
end
/-- two chains part at the root of a * f -/
def RtD (w : Int) (T U : Bool → Th) (n : Int) : Prop := ∃ k e : Int, RC n 1 w k e ∧ ¬(UpR n 1 e k T ↔ UpR n 1 e k U)
theorem rtD_iff {w n k e : Int} {T U : Bool → Th} (hw : 1 ≤ w) (h : RC n 1 w k e) : RtD w T U n ↔ ¬(UpR n 1 e k T ↔ UpR n 1 e k U) := by
  constructor
  · rintro ⟨k', e', h', z⟩
    obtain ⟨rfl, rfl⟩ := RC.uniq (by decide) hw h h'
    exact z
  · exact fun z => ⟨k, e, h, z⟩
noncomputable def rP (c c' : List (Int × Ru)) (a f : Int) : Bool := @decide (RtD (chT c).1 (chT c).2 (chT c').2 (a * f)) (Classical.propDecidable _)
theorem rP_iff {c c' : List (Int × Ru)} {a f : Int} : rP c c' a f = true ↔ RtD (chT c).1 (chT c).2 (chT c').2 (a * f) := by
  unfold rP
  exact @decide_eq_true_iff _ (Classical.propDecidable _)
theorem rP_comm {c c' : List (Int × Ru)} {a f : Int} (h : Two c c') : rP c' c a f = rP c c' a f := by
  rw [Bool.eq_iff_iff, rP_iff, rP_iff, ← h.w]
  unfold RtD
  exact ⟨fun ⟨k, e, z1, z2⟩ => ⟨k, e, z1, fun q => z2 q.symm⟩, fun ⟨k, e, z1, z2⟩ => ⟨k, e, z1, fun q => z2 q.symm⟩⟩
theorem rP_self {c : List (Int × Ru)} {a f : Int} : rP c c a f = false := by
  refine Bool.eq_false_iff.mpr fun z => ?_
  obtain ⟨_, _, _, z⟩ := rP_iff.mp z
  exact z Iff.rfl
theorem rP_tri {c c' c2 : List (Int × Ru)} {a f : Int} (h : Two c c') : rP c c2 a f = (rP c c' a f != rP c' c2 a f) := by
  obtain ⟨_, w1, w2⟩ := chT_B h.a.ne h.a.w
  rw [Bool.eq_iff_iff, rP_iff, bne_iff_ne, ne_eq, Bool.eq_iff_iff, rP_iff, rP_iff, ← h.w]
  by_cases q : ∃ k e : Int, RC (a * f) 1 (chT c).1 k e
  · obtain ⟨k, e, rc⟩ := q
    rw [rtD_iff w1 rc, rtD_iff w1 rc, rtD_iff w1 rc]
    generalize UpR _ _ _ _ (chT c).2 = a
    generalize UpR _ _ _ _ (chT c').2 = b
    generalize UpR _ _ _ _ (chT c2).2 = c
    by_cases a <;> by_cases b <;> by_cases c <;> simp_all
  · have no : ∀ T U, ¬RtD (chT c).1 T U (a * f) := fun T U ⟨k, e, rc, _⟩ => q ⟨k, e, rc⟩
    exact ⟨fun z => absurd z (no _ _), fun z => absurd ⟨fun z => absurd z (no _ _), fun z => absurd z (no _ _)⟩ z⟩
/-- counts of all kinds -/
theorem cnt2_zero {p : Int → Int → Bool} {b0 a0 : Int} {nb : Nat} (h : ∀ a b, p a b = false) : ∀ n : Nat, cnt2 p b0 nb a0 n = 0
  | 0 => rfl
  | n + 1 => by rw [cnt2, cnt2_zero h n, cntP_none nb fun x _ _ => h _ _]; rfl
end Z

namespace Z
open L2 PySem PySem.Spec PyProof.Rows
open Evl (Ex ex_l ex_t ex_rd fresh_back)
/-! ### l.count(x), data of any depth -/
def rCountD (K : Fg) : V → List V → Hp → VK → Prop := fun x xs H Q => ∃ (a : Addr) (y : V) (d : Da) (ds : List Da), x = V.ref a ∧ xs = [y] ∧ Dp K H (V.ref a) (.list ds) ∧ Dp K H y d ∧
  SeqAt.shaped (.list ds) = true ∧ SeqAt.shaped d = true ∧ Q (.int (ds.countP fun z => PyData.eqv z d : Nat)) H
def dCount (ta tb : DE) : DE := fun g Q => ta g fun x g1 => match x with
  | .val (.list ds) => tb g1 fun y g2 => (match y with
    | .val d => SeqAt.shaped (.list ds) = true ∧ SeqAt.shaped d = true ∧ Q (.val (.int (ds.countP fun z => PyData.eqv z d : Nat))) g2
    | _ => False)
  | _ => False
section
variable {X : Cx}
theorem mt_countD (hu : X.A.units + 65 < cLine) : MtR X "list.count" (rCountD X.K) := by
  intro pins s σ H x xs v us Q I rx rxs h
  obtain ⟨a, y, d, ds, rfl, rfl, hl, hy, sl, sd, q⟩ := h
  cases rx
  obtain ⟨uy, rfl, ry⟩ := rxs.one
  obtain ⟨bs, r1⟩ := Dp.reads I d y uy hy ry
  have hxs : PyData.canLayAll0 ds = true := SeqAt.canLay_of_shaped sl
  have hd : d.canLay0 = true := SeqAt.canLay_of_shaped sd
  have hroom : X.A.units + 1 + min (PyData.depthAll ds) d.depth < cLine := room_in_shaped sd hu
  cases hl with
  | lst hs ha =>
    obtain ⟨its, rv, ⟨⟨cls, dd, data, sls⟩, n, ho, hc, hdn, hdt⟩, hlen⟩ := I.list hs
    simp only at hc hdt
    subst hc hdt
    obtain ⟨as, h4⟩ := Dp.readsAll I ds _ its ha rv
    have em : its.map (SeqAt.readOf s.heap) = ds := SeqAt.readsAll_map ds its as hxs h4
    have ec : its.toArray.toList.countP (fun u => PyData.eqv (SeqAt.readOf s.heap u) d) = ds.countP fun z => PyData.eqv z d := by
      conv => rhs; rw [← em, List.countP_map]
      rfl
    refine call_meets PySem.F.slot_list_count ⟨_, ho, rfl⟩ PySem.F.entry_list_count (PySem.F.args_list_count_2 _ _)
      (SeqAt.list_countAt a its.toArray n dd sls uy fun u => PyData.eqv (SeqAt.readOf s.heap u) d) ⟨ho, SeqAt.items_eqAt (vs := its.toArray) h4 r1 hxs hd hroom, ?_⟩
    refine ⟨.int (ds.countP fun z => PyData.eqv z d : Nat), H, I.tok _, ⟨s.toks, ?_⟩, q⟩
    rw [ec]
theorem e_count {o e : Expr} {ta tb : DE} {apos cpos : Pos} {k : Nat} (hr : Room k X.A) (ho : PE X o (up X.K ta)) (he : PE X e (up X.K tb))
    (hbase : attributeBase o "count" X.env (eval o X.env) = eval o X.env := by rfl)
    (hfew : ((backTo cpos (starEach [e] X.env)).all (fun x => !x.1) && (backToKw cpos (keywordEach [] X.env)).all (fun x => x.1.isSome)
      && decide ([e].length + ([] : List Keyword).length + (if ([] : List Keyword).isEmpty then 0 else 1) < 30)) = true := by rfl)
    (hline : (apos.endLine == cpos.line) = true := by rfl) (hs : starEach [e] X.env = (false, eval e X.env) :: starEach [] X.env := by rfl) (hplain : (backTo cpos (starEach [] X.env)).any (·.1) = false := by rfl) :
    PE X (.Call (.Attribute o "count" apos) [e] [] cpos) (up X.K (dCount ta tb)) := pe_to (pe_bm PySem.F.plainAttrs_list PySem.F.slot_list_count PySem.F.type_list_count (mt_countD (Room.units1 hr)) ho (pa_cons he pa_nil hs) hbase hfew hline hs hplain) fun σ H Q q => by
  obtain ⟨c, g, tv, tr, F, ad, post, s, t, k⟩ := q
  refine ⟨c, g, tv, tr, F, ad, _, s, t, fun x g1 v1 H1 F1 a1 t1 s1 => ?_⟩
  cases x with
  | val d =>
    cases d with
    | list ds =>
      have hr : Rp X.K F1 v1 (.list ds) := s1.top
      cases hr with
      | lst sq m =>
        rename_i pp xs
        refine ⟨.inl ⟨rfl, _, .inl (.inl (s1.eh _ _ sq))⟩, c, g1, _, _, F1, a1, _, s1, t1, fun y g2 v2 H2 F2 a2 t2 s2 => ?_⟩
        cases y with
        | val e =>
          have r1 : Rp X.K F2 (.ref pp) (.list ds) := s2.pop1.top
          have r2 : Rp X.K F2 v2 e := s2.top
          obtain ⟨h1, h2, h3⟩ := t2
          exact ⟨pp, v2, e, ds, rfl, rfl, r1.dp s2.eh _ _ (shaped_lay h1), r2.dp s2.eh _ _ (shaped_lay h2), h1, h2, k _ g2 _ H2 F2 a2 h3 ((s2.pop1.pop1).push (r := .val (.int _)) (.int _))⟩
        | _ => exact t2.elim
    | _ => exact t1.elim
  | _ => exact t1.elim
end
/-! ### a, b = e, [..] by a tuple (a or b captured) -/
theorem NewL.grow {K : Fg} {c : Con} {g : Gs} {σ : L2.St} {H F : Hp} {a p : Addr} {v : V} {ds : List Da} {ot : HO} (h : NewL K c g σ H F a v ds) (e : Ex F H) (hp : H p = none) : NewL K c g σ (upd H p ot) (upd F p ot) a v ds := by
  obtain ⟨o, xs, rfl, q2, q3, q4, q5, q6, q7⟩ := h.ex
  have ne : o ≠ p := fun z => by rw [z, hp] at q4; cases q4
  exact ⟨o, xs, rfl, by rw [upd_ne ne]; exact q2, q3, by rw [upd_ne ne]; exact q4, q5.up (Gr.new e hp).f, q6, q7⟩
section
variable {X : Cx} {pos : Pos}
theorem s_parRT {i j : Nat} {x y : Str} {a b : Expr} {ta : DE} {tl : DL} {px py pt : Pos} {kt k2 : Nat} {pt2 : Pos} (hc : X.calm = true) (hN : X.N.Nodup) (hi : X.N[i]? = some x) (hj : X.N[j]? = some y) (hij : i ≠ j)
    (hx : L2.Loc X.env.scope x) (hy : L2.Loc X.env.scope y) (ha : PE X a (up X.K ta)) (hb : PE X b (upL X.K tl))
    (fx : X.fn x = true ∨ X.env.scope.names.lookup x = some .local := by first | exact .inl rfl | exact .inr rfl) (fy : X.fn y = true ∨ X.env.scope.names.lookup y = some .local := by first | exact .inl rfl | exact .inr rfl)
    (hsw : swappedStores [.Tuple [.Name x px, .Name y py] kt pt] (.Tuple [a, b] k2 pt2) X.env = pure none := by rfl)
    (h1 : swapsWithSole [.Tuple [.Name x px, .Name y py] kt pt] (.Tuple [a, b] k2 pt2) pos.line X.env = pure false := by rfl)
    (h2 : (assignEach [.Tuple [.Name x px, .Name y py] kt pt] X.env).map (·.2) = [assign (.Tuple [.Name x px, .Name y py] kt pt) X.env] := by rfl)
    (e1 : (assignEach [.Name x px, .Name y py] X.env).map (·.2) = assign (.Name x px) X.env :: (assignEach [.Name y py] X.env).map (·.2) := by rfl)
    (e2 : (assignEach [.Name y py] X.env).map (·.2) = assign (.Name y py) X.env :: (assignEach [] X.env).map (·.2) := by rfl)
    (hn : (assignEach [.Name x px, .Name y py] X.env).length = 2 := by rfl) (hst : (assignEach [.Name x px, .Name y py] X.env).findIdx? (·.1) = none := by rfl)
    (n1 : starEach [a, b] X.env = (false, eval a X.env) :: starEach [b] X.env := by rfl) (n2 : starEach [b] X.env = (false, eval b X.env) :: starEach [] X.env := by rfl) :
    PS X (.Assign [.Tuple [.Name x px, .Name y py] kt pt] (.Tuple [a, b] k2 pt2) pos) (upS X.K (dParR i j ta tl)) := ps_to (ps_asg (pe_tup (pa_cons ha (pa_cons hb pa_nil n2) n1)) (pg_tup hc (pgs_cons (pg_name hN hi hx fx) (pgs_cons (pg_name hN hj hy fy) pgs_nil e2) e1) hn hst) h1 hsw h2) fun D σ H q => by
  obtain ⟨c, g, tv, tr, F, a, d, s, hn, t, k⟩ := q
  refine ⟨c, g, tv, tr, F, a, _, s, t, fun r g1 v H1 F1 a1 t1 s1 => ?_⟩
  refine ⟨c, g1, _, _, F1, a1, _, s1, t1, fun ds g2 w H2 F2 a2 t2 s2 n2 => ?_⟩
  refine ⟨by rw [sizeLine_eq]; exact Nat.le_of_ble_eq_true rfl, fun p hp => ⟨p, [v, w], rfl, ?_, rfl, v, [w], rfl, w, [], rfl, rfl, ?_⟩⟩
  · first | exact .inl upd_same | exact .inl (.inl upd_same)
  · rw [List.set_comm _ _ hij]
    have gr := Gr.new (o := .tup [v, w]) s2.eh hp
    exact k.nx _ _ _ _ a2 t2 (((s2.grow gr).setOwn (n2.grow s2.eh hp) j).set i)
end
/-! ### three firsts -/
def emK (u : Bool) (m : Int × Int) : Da := if u then .tuple [.int m.1, .int m.2] else .int m.1
def opK (u : Bool) : Option (Int × Int) → Da
  | some m => emK u m
  | none => .none
def ltK (u : Bool) (m m' : Int × Int) : Prop := m.1 < m'.1 ∨ (u = true ∧ m.1 = m'.1 ∧ m.2 < m'.2)
theorem le_int {i j : Int} (h : PySem.W.dataLe false id (.int i) (.int j) = true) : i ≤ j := by
  rcases Int.lt_or_le j i with q | q
  · exfalso
    have h' : (!PyProof.Rows.lexLt PyProof.Rows.itemOrd (PySem.W.keyToks (.int j)) (PySem.W.keyToks (.int i))) = true := h
    rw [Bool.not_eq_true'] at h'
    have e : PyProof.Rows.lexLt PyProof.Rows.itemOrd (PySem.W.keyToks (.int j)) (PySem.W.keyToks (.int i)) = true := by
      refine PyProof.Rows.lex_true.mpr (.inl (decide_eq_true q))
    rw [e] at h'
    cases h'
  · exact q
theorem ltK_no {u : Bool} {m m' : Int × Int} (h : ltK u m m') : ¬PySem.W.dataLe false id (emK u m') (emK u m) = true := fun z => by
  unfold emK ltK at *
  cases u
  · have := le_int z
    rcases h with h | ⟨h, _⟩
    · omega
    · cases h
  · have := le_num (show PySem.W.dataLe false id (num m'.1 m'.2) (num m.1 m.2) = true from z)
    rcases h with h | ⟨_, h⟩ <;> omega
theorem srt_head {A x : Da} {xs ys : List Da} (pm : (x :: xs).Perm (A :: ys)) (pw : (x :: xs).Pairwise (fun a b => PySem.W.dataLe false id a b = true)) (hy : ∀ y ∈ ys, y = A ∨ ¬PySem.W.dataLe false id y A = true) : x = A := by
  have h1 : A ∈ x :: xs := pm.mem_iff.mpr (by simp)
  have h2 : x ∈ A :: ys := pm.mem_iff.mp (by simp)
  rcases List.mem_cons.mp h1 with e | h1
  · exact e.symm
  · have l := (List.pairwise_cons.mp pw).1 A h1
    rcases List.mem_cons.mp h2 with e | h2
    · exact e
    · rcases hy x h2 with e | e
      · exact e
      · exact absurd l e
/-- two of three firsts are the least -/
theorem srt_two {A : Da} {ds : List Da} {r : List Da} (pm : ds.Perm (A :: A :: r)) (pw : ds.Pairwise (fun a b => PySem.W.dataLe false id a b = true)) (hr : ∀ y ∈ r, ¬PySem.W.dataLe false id y A = true) : ∃ ds', ds = A :: A :: ds' ∧ ds'.Perm r := by
  match ds, pm, pw with
  | [], pm, _ => exact absurd pm.length_eq (by simp)
  | [x], pm, _ => exact absurd pm.length_eq (by simp)
  | x :: y :: ds', pm, pw =>
    have e1 := srt_head pm pw fun z hz => by
      rcases List.mem_cons.mp hz with e | e
      · exact .inl e
      · exact .inr (hr z e)
    subst e1
    have pm2 := (List.perm_cons x).mp pm
    have pw2 := (List.pairwise_cons.mp pw).2
    have e2 := srt_head pm2 pw2 fun z hz => .inr (hr z hz)
    subst e2
    exact ⟨ds', rfl, (List.perm_cons y).mp pm2⟩
/-- what three chains' firsts and counts of one kind are -/
structure Ask3 (u : Bool) (o1 o2 o3 : Option (Int × Int)) (a b c : Int) : Prop where
  tri : Tri a b c
  z1 : o1 = none ↔ a = 0
  z2 : o2 = none ↔ b = 0
  z3 : o3 = none ↔ c = 0
  fr : (o1 = none ∧ o2 = none ∧ o3 = none) ∨ ∃ m, (∀ m' , (o1 = some m' ∨ o2 = some m' ∨ o3 = some m') → m' = m ∨ ltK u m m') ∧ ((o1 = some m ∧ o2 = some m ∧ o3 ≠ some m) ∨ (o1 = some m ∧ o3 = some m ∧ o2 ≠ some m) ∨ (o2 = some m ∧ o3 = some m ∧ o1 ≠ some m))
theorem em_sortable {u : Bool} {ds : List Da} (h : ∀ d ∈ ds, ∃ m, d = emK u m) : PySem.W.AllAlike ds ∧ PySem.W.Sortable ds ∧ ∀ d ∈ ds, d.canLay0 = true ∧ d.depth ≤ 50 := by
  cases u
  · refine ⟨fun d hd e he => ?_, .inr fun d hd => ?_, fun d hd => ?_⟩
    · obtain ⟨m, rfl⟩ := h d hd
      obtain ⟨m', rfl⟩ := h e he
      simp [emK, PySem.W.alike]
    · obtain ⟨m, rfl⟩ := h d hd
      exact ⟨fun z => by simp [emK] at z, fun xs z => by simp [emK] at z⟩
    · obtain ⟨m, rfl⟩ := h d hd
      exact ⟨rfl, by simp [emK, PyData.depth]⟩
  · exact nums_sortable fun d hd => by
      obtain ⟨m, rfl⟩ := h d hd
      exact ⟨m.1, m.2, rfl⟩
theorem em_eqv {u : Bool} {m m' : Int × Int} : (emK u m).eqv (emK u m') = true ↔ emK u m = emK u m' := by
  unfold emK
  cases u
  · simp [PyData.eqv]
  · simp [PyData.eqv, PyData.eqvAll]
theorem em_self (u : Bool) (m : Int × Int) : (emK u m).eqv (emK u m) = true := em_eqv.mpr rfl
theorem em_ne {u : Bool} {m m' : Int × Int} (h : ltK u m m') : (emK u m').eqv (emK u m) = false := by
  refine Bool.eq_false_iff.mpr fun z => ?_
  have z := em_eqv.mp z
  unfold emK ltK at *
  cases u
  · simp at z h
    omega
  · simp at z h
    omega
theorem em_shaped {u : Bool} {ds : List Da} (h : ∀ d ∈ ds, ∃ m, d = emK u m) : SeqAt.shaped (.list ds) = true := by
  have a : ∀ ds : List Da, (∀ d ∈ ds, ∃ m, d = emK u m) → PyData.canLayAll0 ds = true ∧ PyData.depthAll ds ≤ 1 := fun ds => by
    induction ds with
    | nil => exact fun _ => ⟨rfl, Nat.zero_le _⟩
    | cons d ds ih =>
      intro h
      obtain ⟨i1, i2⟩ := ih fun x hx => h x (List.mem_cons_of_mem _ hx)
      obtain ⟨m, rfl⟩ := h d List.mem_cons_self
      have c : (emK u m).canLay0 = true ∧ (emK u m).depth ≤ 1 := by cases u <;> exact ⟨rfl, by simp [emK, PyData.depth, PyData.depthAll]⟩
      refine ⟨by simp [PyData.canLayAll0, c.1, i1], ?_⟩
      show max _ _ ≤ 1
      exact Nat.max_le.mpr ⟨c.2, i2⟩
  obtain ⟨a1, a2⟩ := a ds h
  simp [SeqAt.shaped, PyData.canLay0, PyData.depth, a1]
  omega
theorem em_shaped1 (u : Bool) (m : Int × Int) : SeqAt.shaped (emK u m) = true := by cases u <;> rfl
/-- the sorted firsts: the head is there twice -/
theorem three_count {u : Bool} {m : Int × Int} {ds : List Da} {r : List Da} (pm : ds.Perm (emK u m :: emK u m :: r)) (pw : ds.Pairwise (fun a b => PySem.W.dataLe false id a b = true)) (hr : ∀ y ∈ r, ∃ m', y = emK u m' ∧ ltK u m m') :
    ∃ ds', ds = emK u m :: ds' ∧ ds.countP (fun z => PyData.eqv z (emK u m)) = 2 ∧ ∀ d ∈ ds, ∃ m, d = emK u m := by
  obtain ⟨ds', rfl, p2⟩ := srt_two pm pw fun y hy => by
    obtain ⟨m', rfl, l⟩ := hr y hy
    exact ltK_no l
  refine ⟨emK u m :: ds', rfl, ?_, fun d hd => ?_⟩
  · rw [List.countP_cons, List.countP_cons, em_self]
    have : ds'.countP (fun z => PyData.eqv z (emK u m)) = 0 := by
      rw [List.countP_eq_zero]
      intro y hy
      obtain ⟨m', rfl, l⟩ := hr y (p2.mem_iff.mp hy)
      simp [em_ne l]
    rw [this]
    rfl
  · have hd := pm.mem_iff.mp hd
    simp only [List.mem_cons] at hd
    rcases hd with rfl | rfl | hd
    · exact ⟨m, rfl⟩
    · exact ⟨m, rfl⟩
    · obtain ⟨m', rfl, _⟩ := hr d hd
      exact ⟨m', rfl⟩
/-! ### firsts of three predicates, r = p xor q -/
theorem fst2_cnt {p : Int → Int → Bool} {a0 a1 b0 b1 : Int} {o : Option (Int × Int)} (ha : a0 ≤ a1) (hb : b0 ≤ b1) (h : Fst2 (fun a b => p a b = true) a0 a1 b0 b1 o) : o = none ↔ cnt2 p b0 (b1 - b0).toNat a0 (a1 - a0).toNat = 0 := by
  have hl := hits_len p b0 (b1 - b0).toNat a0 (a1 - a0).toNat
  have hi := hits_is p b0 (b1 - b0).toNat a0 (a1 - a0).toNat
  rw [show a0 + (((a1 - a0).toNat : Nat) : Int) = a1 by omega, show b0 + (((b1 - b0).toNat : Nat) : Int) = b1 by omega] at hi
  rw [← hl]
  rcases hi with ⟨e, hz⟩ | ⟨w, t, e, hz⟩
  · rw [fst2_one h hz, e]
    exact ⟨fun _ => rfl, fun _ => rfl⟩
  · rw [fst2_one h hz, e]
    exact ⟨fun z => (by cases z), fun z => by rw [List.length_cons] at z; omega⟩
def leP (m m' : Int × Int) : Prop := m.1 < m'.1 ∨ (m.1 = m'.1 ∧ m.2 ≤ m'.2)
theorem leP_anti {m m' : Int × Int} (h : leP m m') (h' : leP m' m) : m = m' := by
  unfold leP at *
  exact Prod.ext (by omega) (by omega)
theorem leP_total (m m' : Int × Int) : leP m m' ∨ leP m' m := by
  unfold leP
  omega
theorem leP_trans {a b c : Int × Int} (h : leP a b) (h' : leP b c) : leP a c := by
  unfold leP at *
  omega
theorem fst2_at {P : Int → Int → Prop} {a0 a1 b0 b1 : Int} {o : Option (Int × Int)} {m : Int × Int} (h : Fst2 P a0 a1 b0 b1 o) (h1 : a0 ≤ m.1) (h2 : m.1 < a1) (h3 : b0 ≤ m.2) (h4 : m.2 < b1) (hm : P m.1 m.2) : ∃ m', o = some m' ∧ leP m' m := by
  cases o with
  | none => exact absurd hm (h m.1 m.2 h1 h2 h3 h4)
  | some m' => exact ⟨m', rfl, h.2.2.2.2.2 m.1 m.2 h1 h2 h3 h4 hm⟩
theorem least3 (o1 o2 o3 : Option (Int × Int)) : (o1 = none ∧ o2 = none ∧ o3 = none) ∨ ∃ m, (o1 = some m ∨ o2 = some m ∨ o3 = some m) ∧ ∀ m', (o1 = some m' ∨ o2 = some m' ∨ o3 = some m') → leP m m' := by
  have two : ∀ o o' : Option (Int × Int), (o = none ∧ o' = none) ∨ ∃ m, (o = some m ∨ o' = some m) ∧ ∀ m', (o = some m' ∨ o' = some m') → leP m m' := fun o o' => by
    cases o with
    | none => cases o' with
      | none => exact .inl ⟨rfl, rfl⟩
      | some m => exact .inr ⟨m, .inr rfl, fun m' h => by rcases h with h | h <;> cases h; unfold leP; omega⟩
    | some m => cases o' with
      | none => exact .inr ⟨m, .inl rfl, fun m' h => by rcases h with h | h <;> cases h; unfold leP; omega⟩
      | some m2 =>
        rcases leP_total m m2 with l | l
        · exact .inr ⟨m, .inl rfl, fun m' h => by
            rcases h with h | h <;> cases h
            · unfold leP; omega
            · exact l⟩
        · exact .inr ⟨m2, .inr rfl, fun m' h => by
            rcases h with h | h <;> cases h
            · exact l
            · unfold leP; omega⟩
  rcases two o1 o2 with ⟨rfl, rfl⟩ | ⟨m, hm, lm⟩
  · cases o3 with
    | none => exact .inl ⟨rfl, rfl, rfl⟩
    | some m => exact .inr ⟨m, .inr (.inr rfl), fun m' h => by
        rcases h with h | h | h <;> cases h
        unfold leP; omega⟩
  · cases o3 with
    | none => exact .inr ⟨m, hm.elim .inl fun h => .inr (.inl h), fun m' h => by
        rcases h with h | h | h
        · exact lm m' (.inl h)
        · exact lm m' (.inr h)
        · cases h⟩
    | some m3 =>
      rcases leP_total m m3 with l | l
      · exact .inr ⟨m, hm.elim .inl fun h => .inr (.inl h), fun m' h => by
          rcases h with h | h | h
          · exact lm m' (.inl h)
          · exact lm m' (.inr h)
          · cases h; exact l⟩
      · exact .inr ⟨m3, .inr (.inr rfl), fun m' h => by
          rcases h with h | h | h
          · exact leP_trans l (lm m' (.inl h))
          · exact leP_trans l (lm m' (.inr h))
          · cases h; unfold leP; omega⟩
theorem ask2 {u : Bool} {p q r : Int → Int → Bool} {a0 a1 b0 b1 : Int} {o1 o2 o3 : Option (Int × Int)} (hu : u = true ∨ (b0 = 0 ∧ b1 = 1)) (ha : a0 ≤ a1) (hb : b0 ≤ b1) (hr : ∀ a b, r a b = (p a b != q a b))
    (h1 : Fst2 (fun a b => p a b = true) a0 a1 b0 b1 o1) (h2 : Fst2 (fun a b => q a b = true) a0 a1 b0 b1 o2) (h3 : Fst2 (fun a b => r a b = true) a0 a1 b0 b1 o3) :
    Ask3 u o1 o2 o3 (cnt2 p b0 (b1 - b0).toNat a0 (a1 - a0).toNat) (cnt2 q b0 (b1 - b0).toNat a0 (a1 - a0).toNat) (cnt2 r b0 (b1 - b0).toNat a0 (a1 - a0).toNat) := by
  refine ⟨tri_2 _ fun a b _ _ _ _ => hr a b, fst2_cnt ha hb h1, fst2_cnt ha hb h2, fst2_cnt ha hb h3, ?_⟩
  rcases least3 o1 o2 o3 with h | ⟨m, hm, lm⟩
  · exact .inl h
  · have dom : ∀ (P : Int → Int → Prop) (o : Option (Int × Int)) (m : Int × Int), Fst2 P a0 a1 b0 b1 o → o = some m → a0 ≤ m.1 ∧ m.1 < a1 ∧ b0 ≤ m.2 ∧ m.2 < b1 ∧ P m.1 m.2 := fun P o m h e => by
      subst e
      exact ⟨h.1, h.2.1, h.2.2.1, h.2.2.2.1, h.2.2.2.2.1⟩
    have D : ∀ m', (o1 = some m' ∨ o2 = some m' ∨ o3 = some m') → a0 ≤ m'.1 ∧ m'.1 < a1 ∧ b0 ≤ m'.2 ∧ m'.2 < b1 := fun m' h => by
      rcases h with h | h | h
      · obtain ⟨x1, x2, x3, x4, _⟩ := dom _ _ _ h1 h; exact ⟨x1, x2, x3, x4⟩
      · obtain ⟨x1, x2, x3, x4, _⟩ := dom _ _ _ h2 h; exact ⟨x1, x2, x3, x4⟩
      · obtain ⟨x1, x2, x3, x4, _⟩ := dom _ _ _ h3 h; exact ⟨x1, x2, x3, x4⟩
    obtain ⟨d1, d2, d3, d4⟩ := D m hm
    refine .inr ⟨m, fun m' h => ?_, ?_⟩
    · obtain ⟨e1, e2, e3, e4⟩ := D m' h
      have l := lm m' h
      by_cases e : m' = m
      · exact .inl e
      · refine .inr ?_
        unfold ltK
        unfold leP at l
        have ne : ¬(m'.1 = m.1 ∧ m'.2 = m.2) := fun z => e (Prod.ext z.1 z.2)
        rcases hu with hu | ⟨z0, z1⟩
        · rcases l with l | l
          · exact .inl l
          · exact .inr ⟨hu, l.1, by omega⟩
        · exact .inl (by omega)
    · have up : ∀ (P : Int → Int → Prop) (o : Option (Int × Int)), Fst2 P a0 a1 b0 b1 o → (∀ m', o = some m' → leP m m') → P m.1 m.2 → o = some m := fun P o h l hp => by
        obtain ⟨m', e, l'⟩ := fst2_at h d1 d2 d3 d4 hp
        rw [e, leP_anti (l m' e) l']
      have u1 := up _ o1 h1 (fun m' e => lm m' (.inl e))
      have u2 := up _ o2 h2 (fun m' e => lm m' (.inr (.inl e)))
      have u3 := up _ o3 h3 (fun m' e => lm m' (.inr (.inr e)))
      have v1 : o1 = some m → p m.1 m.2 = true := fun e => (dom _ _ _ h1 e).2.2.2.2
      have v2 : o2 = some m → q m.1 m.2 = true := fun e => (dom _ _ _ h2 e).2.2.2.2
      have v3 : o3 = some m → r m.1 m.2 = true := fun e => (dom _ _ _ h3 e).2.2.2.2
      have x := hr m.1 m.2
      cases hp : p m.1 m.2 <;> cases hq : q m.1 m.2 <;> simp only [hp, hq, bne_self_eq_false, Bool.true_bne, Bool.false_bne, Bool.not_false, Bool.not_true] at x
      · exfalso
        rcases hm with e | e | e
        · rw [v1 e] at hp; cases hp
        · rw [v2 e] at hq; cases hq
        · rw [v3 e] at x; cases x
      · exact .inr (.inr ⟨u2 hq, u3 x, fun e => by rw [v1 e] at hp; cases hp⟩)
      · exact .inr (.inl ⟨u1 hp, u3 x, fun e => by rw [v2 e] at hq; cases hq⟩)
      · exact .inl ⟨u1 hp, u2 hq, fun e => by rw [v3 e] at x; cases x⟩
/-- the same of a range -/
theorem fst2_of1 {P : Int → Prop} {st sp : Int} {o : Option Int} (h : Fst P st sp o) : Fst2 (fun a _ => P a) st sp 0 1 (o.map fun x => (x, 0)) := by
  cases o with
  | none => exact fun a b h1 h2 _ _ => h a h1 h2
  | some x =>
    obtain ⟨h1, h2, h3, h4⟩ := h
    refine ⟨h1, h2, Int.le_refl 0, (show (0 : Int) < 1 by decide), h3, fun a b x1 x2 x3 x4 hp => ?_⟩
    show x < a ∨ (x = a ∧ (0 : Int) ≤ b)
    rcases Int.lt_or_le a x with l | l
    · exact absurd hp (h4 a x1 l)
    · omega
theorem cnt2_of1 {p : Int → Bool} {st : Int} : ∀ n : Nat, cnt2 (fun a _ => p a) 0 (1 - 0 : Int).toNat st n = cntP p st n
  | 0 => rfl
  | n + 1 => by
    rw [cnt2, cntP, cnt2_of1 n]
    show cntP p st n + (0 + (if p (st + n) = true then 1 else 0)) = cntP p st n + (if p (st + n) = true then 1 else 0)
    rw [Int.zero_add]
theorem ask1 {p q r : Int → Bool} {st sp : Int} {o1 o2 o3 : Option Int} (ha : st ≤ sp) (hr : ∀ a, r a = (p a != q a)) (h1 : Fst (fun a => p a = true) st sp o1) (h2 : Fst (fun a => q a = true) st sp o2) (h3 : Fst (fun a => r a = true) st sp o3) :
    Ask3 false (o1.map fun x => (x, 0)) (o2.map fun x => (x, 0)) (o3.map fun x => (x, 0)) (cntP p st (sp - st).toNat) (cntP q st (sp - st).toNat) (cntP r st (sp - st).toNat) := by
  have := ask2 (u := false) (p := fun a _ => p a) (q := fun a _ => q a) (r := fun a _ => r a) (.inr ⟨rfl, rfl⟩) ha (by decide) (fun a _ => hr a) (fst2_of1 h1) (fst2_of1 h2) (fst2_of1 h3)
  rw [cnt2_of1, cnt2_of1, cnt2_of1] at this
  exact this
theorem opK_0 (o : Option Int) : opK false (o.map fun x => (x, 0)) = optD o := by cases o <;> rfl
theorem opK_2 (o : Option (Int × Int)) : opK true o = optP o := by cases o <;> rfl
end Z

/-! ### list(zip(l, m)), lists of any length -/
namespace LZN
open PySem
open PySem.Sem (wp)
/-- a zip ahead of an item: fresh, or its first tuple still held -/
def ZSt (h : Heap) (q TI TO u1 u2 S : Addr) : Prop := IsZip h q TI TO .none ∨ ∃ (T : Addr) (f : Bool) (oT : Obj), IsZipHeld h q TI TO T f ∧ h.get? T = some oT ∧ T ≠ q ∧ T ≠ u1 ∧ T ≠ u2 ∧ T ≠ S
structure Run (h : Heap) (q TI TO u1 u2 l1 l2 S : Addr) (xs ys : Array Value) (k : Nat) : Prop where
  D : ZipApart q TI TO u1 u2 l1 l2
  z : ZSt h q TI TO u1 u2 S
  o : ∃ a b, IsPair h TO a b
  i : IsPair h TI (.ref u1) (.ref u2)
  g1 : h.IsListIter u1 l1 k
  g2 : h.IsListIter u2 l2 k
  m1 : h.IsList l1 xs
  m2 : h.IsList l2 ys
structure Off (S q TI TO u1 u2 l1 l2 : Addr) : Prop where
  q : S ≠ q
  TI : S ≠ TI
  TO : S ≠ TO
  u1 : S ≠ u1
  u2 : S ≠ u2
  l1 : S ≠ l1
  l2 : S ≠ l2
section
variable {h h' : Heap} {q TI TO u1 u2 l1 l2 S : Addr} {xs ys : Array Value} {k : Nat}
theorem Run.keep (R : Run h q TI TO u1 u2 l1 l2 S xs ys k) (o : Off S q TI TO u1 u2 l1 l2) (hk : ∀ c ob, c ≠ S → h.get? c = some ob → h'.get? c = some ob) : Run h' q TI TO u1 u2 l1 l2 S xs ys k := by
  obtain ⟨a, b, z2⟩ := R.o
  refine ⟨R.D, ?_, ⟨a, b, hk _ _ o.TO.symm z2⟩, hk _ _ o.TI.symm R.i, R.g1.at fun ob e => hk _ ob o.u1.symm e, R.g2.at fun ob e => hk _ ob o.u2.symm e, R.m1.at fun ob e => hk _ ob o.l1.symm e, R.m2.at fun ob e => hk _ ob o.l2.symm e⟩
  rcases R.z with z1 | ⟨T, f, oT, z1, z2, n1, n2, n3, n4⟩
  · exact .inl (hk _ _ o.q.symm z1)
  · exact .inr ⟨T, f, oT, hk _ _ o.q.symm z1, hk _ _ n4 z2, n1, n2, n3, n4⟩
end
section
variable {prog : Program} {w : World} {A : Around} {E : Value → Shared → Prop} {s : Shared} {q TI TO u1 u2 l1 l2 S : Addr} {xs ys : Array Value} {k : Nat}
theorem next_item {x y : Value} {oS : Obj} {Q : Option Value → Shared → Prop} (R : Run s.heap q TI TO u1 u2 l1 l2 S xs ys k) (o : Off S q TI TO u1 u2 l1 l2) (hS : s.heap.get? S = some oS) (hx : xs[k]? = some x) (hy : ys[k]? = some y)
    (hQ : ∀ h', Run h' q TI TO u1 u2 l1 l2 S xs ys (k + 1) → IsPair h' s.heap.objs.size x y → h'.objs.size = s.heap.objs.size + 1 → (∀ c ob, c ≠ q → c ≠ TO → c ≠ u1 → c ≠ u2 → s.heap.get? c = some ob → h'.get? c = some ob) → Q (some (.ref s.heap.objs.size)) { s with heap := h' }) :
    wpAny (model prog w) A (pyNext (.ref q)) Q E s := by
  have D := R.D
  have lu1 : s.heap.objs.size ≠ u1 := by obtain ⟨_, e, _⟩ := R.g1; exact Nat.ne_of_gt (Heap.lt_size e)
  have lu2 : s.heap.objs.size ≠ u2 := by obtain ⟨_, e, _⟩ := R.g2; exact Nat.ne_of_gt (Heap.lt_size e)
  have lS : s.heap.objs.size ≠ S := Nat.ne_of_gt (Heap.lt_size hS)
  obtain ⟨a, b, zo⟩ := R.o
  rcases R.z with z1 | ⟨T, f, oT, z1, z2, n1, n2, n3, n4⟩
  · have lq : s.heap.objs.size ≠ q := Nat.ne_of_gt (Heap.lt_size z1)
    refine wpAny_pyNext_zip_item D z1 R.i zo R.g1 R.g2 R.m1 R.m2 hx hy fun h' e1 e2 e3 e4 e5 e6 e7 => ?_
    refine hQ h' ⟨D, .inr ⟨s.heap.objs.size, false, _, e1, e5, lq, lu1, lu2, lS⟩, ⟨_, _, e2⟩, e7 _ _ D.TIz D.TITO D.TIi1 D.TIi2 R.i, e3, e4, R.m1.at fun ob e => e7 _ ob D.l1z D.l1TO D.l1i1 D.l1i2 e, R.m2.at fun ob e => e7 _ ob D.l2z D.l2TO D.l2i1 D.l2i2 e⟩ e5 e6 e7
  · refine wpAny_pyNext_zip_item_held D z1 z2 R.i R.g1 R.g2 R.m1 R.m2 hx hy fun h' e1 e3 e4 e5 e6 e7 => ?_
    exact hQ h' ⟨D, .inr ⟨T, true, oT, e1, e7 _ _ n1 n2 n3 z2, n1, n2, n3, n4⟩, ⟨a, b, e7 _ _ D.TOz D.TOi1 D.TOi2 zo⟩, e7 _ _ D.TIz D.TIi1 D.TIi2 R.i, e3, e4, R.m1.at fun ob e => e7 _ ob D.l1z D.l1i1 D.l1i2 e, R.m2.at fun ob e => e7 _ ob D.l2z D.l2i1 D.l2i2 e⟩ e5 e6 fun c ob c1 _ c3 c4 e => e7 c ob c1 c3 c4 e
theorem next_end {Q : Option Value → Shared → Prop} (hh : A.handled = none) (R : Run s.heap q TI TO u1 u2 l1 l2 S xs ys k) (hend : xs[k]? = none ∨ ys[k]? = none)
    (hQ : ∀ h', (∀ c ob, c ≠ q → c ≠ TO → c ≠ u1 → c ≠ u2 → s.heap.get? c = some ob → h'.get? c = some ob) → Q none { s with heap := h' }) : wpAny (model prog w) A (pyNext (.ref q)) Q E s := by
  have D := R.D
  obtain ⟨a, b, zo⟩ := R.o
  rcases R.z with z1 | ⟨T, f, oT, z1, z2, n1, n2, n3, n4⟩
  · exact wpAny_pyNext_zip_end hh D z1 R.i zo R.g1 R.g2 R.m1 R.m2 hend hQ
  · exact wpAny_pyNext_zip_end_held hh D z1 z2 R.i R.g1 R.g2 R.m1 R.m2 hend fun h' e => hQ h' fun c ob c1 _ c3 c4 x => e c ob c1 c3 c4 x
end
/-- what lies behind the loop: r tuples and the list of them -/
structure Got (h h' : Heap) (q TO u1 u2 S : Addr) (xs ys : Array Value) (k r : Nat) (acc : Array Value) (Ts : List Addr) (c : Nat) : Prop where
  len : Ts.length = r
  kp : ∀ d o, d ≠ S → d ≠ q → d ≠ TO → d ≠ u1 → d ≠ u2 → h.get? d = some o → h'.get? d = some o
  at' : ∀ (i : Nat) (T : Addr), Ts[i]? = some T → h.objs.size ≤ T ∧ T ≠ S ∧ ∃ x y, xs[k + i]? = some x ∧ ys[k + i]? = some y ∧ IsPair h' T x y
  nd : Ts.Nodup
  l : h'.get? S = some { cls := .type "list", dict := none, data := .seq (acc ++ (Ts.map Value.ref).toArray) c, slots := #[] }
section
variable {prog : Program} {w : World} {A : Around} {s : Shared} {R : Result → Shared → Prop} {q TI TO u1 u2 l1 l2 S : Addr} {xs ys : Array Value}
theorem loopN {tk : Nat} {res : Value} (hh : A.handled = none) (o : Off S q TI TO u1 u2 l1 l2) (hmin : min xs.size ys.size ≤ sizeLine) : ∀ (r k : Nat) (h : Heap) (acc : Array Value) (c0 : Nat), k + r = min xs.size ys.size → acc.size = k → Run h q TI TO u1 u2 l1 l2 S xs ys k →
    h.get? S = some { cls := .type "list", data := .seq acc c0 } → (∀ h' Ts c, Got h h' q TO u1 u2 S xs ys k r acc Ts c → R (.ok (.ret res)) { s with heap := h', toks := tk }) →
    codeAny (model prog w) A (.builtin "list.extend.loop" ⟨[.ref S, .ref q, res], []⟩) R { s with heap := h, toks := tk }
  | 0, k, h, acc, c0, hn, ha, Rn, hl, hR => by
    have D := Rn.D
    refine codeAny_builtin PySem.F.entry_extend_loop ?_
    rw [Around.under_plainId PySem.F.plain_extend_loop _]
    show wpAny _ A.in1 (pyNext (.ref q) >>= _) _ _ _
    have hend : xs[k]? = none ∨ ys[k]? = none := by
      rcases Nat.le_total xs.size ys.size with l | l
      · exact .inl (Array.getElem?_eq_none (by omega))
      · exact .inr (Array.getElem?_eq_none (by omega))
    refine wpAny_bind (next_end (A := A.in1) (s := { s with heap := h, toks := tk }) hh Rn hend fun h' e => ?_)
    refine wpAny_pure (hR h' [] c0 ⟨rfl, fun d ob d1 d2 d3 d4 d5 x => e d ob d2 d3 d4 d5 x, fun i T hT => by simp at hT, List.nodup_nil, ?_⟩)
    have := e S _ o.q o.TO o.u1 o.u2 hl
    simpa using this
  | r + 1, k, h, acc, c0, hn, ha, Rn, hl, hR => by
    have D := Rn.D
    have hx : k < xs.size := by omega
    have hy : k < ys.size := by omega
    refine codeAny_builtin PySem.F.entry_extend_loop ?_
    rw [Around.under_plainId PySem.F.plain_extend_loop _]
    show wpAny _ A.in1 (pyNext (.ref q) >>= _) _ _ _
    refine wpAny_bind (next_item (s := { s with heap := h, toks := tk }) Rn o hl (Array.getElem?_eq_getElem hx) (Array.getElem?_eq_getElem hy) fun p R1 P1 z1 k1 => ?_)
    dsimp only at P1 z1 k1
    have l1 : p.get? S = some { cls := .type "list", data := .seq acc c0 } := k1 S _ o.q o.TO o.u1 o.u2 hl
    show wpAny _ A.in1 (updateSeq S (·.push (Value.ref h.objs.size)) >>= _) _ _ _
    refine wpAny_bind ?_
    refine wpAny_updateSeq (hz := by omega) (_hz' := by rw [Array.size_push]; omega) l1 rfl (wpAny_pure ⟨plainId_quiet PySem.F.plain_extend_loop _, ?_⟩)
    have l2 := Heap.get?_update_self (Obj.mapSeq (·.push (Value.ref h.objs.size))) l1 rfl
    have v1 : ∀ d ob, d ≠ S → p.get? d = some ob → (p.update S (Obj.mapSeq (·.push (Value.ref h.objs.size)))).get? d = some ob := fun d ob hd e => (Heap.get?_update_other _ _ (Ne.symm hd)).trans e
    have sz : (p.update S (Obj.mapSeq (·.push (Value.ref h.objs.size)))).objs.size = h.objs.size + 1 := by rw [(Heap.SameBut.update ..).1]; exact z1
    generalize p.update S (Obj.mapSeq (·.push (Value.ref h.objs.size))) = p1 at l2 v1 sz ⊢
    have lS : h.objs.size ≠ S := Nat.ne_of_gt (Heap.lt_size hl)
    have lu1 : h.objs.size ≠ u1 := by obtain ⟨_, e, _⟩ := Rn.g1; exact Nat.ne_of_gt (Heap.lt_size e)
    have lu2 : h.objs.size ≠ u2 := by obtain ⟨_, e, _⟩ := Rn.g2; exact Nat.ne_of_gt (Heap.lt_size e)
    have lq : h.objs.size ≠ q ∧ h.objs.size ≠ TO := by
      obtain ⟨a, b, zo⟩ := Rn.o
      refine ⟨?_, Nat.ne_of_gt (Heap.lt_size zo)⟩
      rcases Rn.z with z1 | ⟨T, f, oT, z1, z2, _⟩
      · exact Nat.ne_of_gt (Heap.lt_size z1)
      · exact Nat.ne_of_gt (Heap.lt_size z1)
    refine loopN hh o hmin r (k + 1) p1 (acc.push (Value.ref h.objs.size)) _ (by omega) (by rw [Array.size_push, ha]) (R1.keep o v1) l2 fun h' Ts c G => ?_
    refine hR h' (h.objs.size :: Ts) c ⟨by rw [List.length_cons, G.len], fun d ob d1 d2 d3 d4 d5 e => G.kp d ob d1 d2 d3 d4 d5 (v1 d ob d1 (k1 d ob d2 d3 d4 d5 e)), fun i T hT => ?_, ?_, ?_⟩
    · cases i with
      | zero =>
        have : T = h.objs.size := by simpa using hT.symm
        subst this
        exact ⟨Nat.le_refl _, lS, _, _, Array.getElem?_eq_getElem hx, Array.getElem?_eq_getElem hy, G.kp _ _ lS lq.1 lq.2 lu1 lu2 (v1 _ _ lS P1)⟩
      | succ i =>
        have hT : Ts[i]? = some T := by simpa using hT
        obtain ⟨g1, g2, x, y, g3, g4, g5⟩ := G.at' i T hT
        exact ⟨by omega, g2, x, y, by rw [show k + (i + 1) = k + 1 + i by omega]; exact g3, by rw [show k + (i + 1) = k + 1 + i by omega]; exact g4, g5⟩
    · refine List.nodup_cons.mpr ⟨fun m => ?_, G.nd⟩
      obtain ⟨i, hi⟩ := List.mem_iff_getElem?.mp m
      have := (G.at' i _ hi).1
      omega
    · have := G.l
      simpa using this
theorem extendN {c0 : Nat} {res : Value} (hh : A.handled = none) (o : Off S q TI TO u1 u2 l1 l2) (hmin : min xs.size ys.size ≤ sizeLine) (F : Run s.heap q TI TO u1 u2 l1 l2 S xs ys 0) (hz : IsZip s.heap q TI TO .none) (hl : s.heap.get? S = some { cls := .type "list", data := .seq #[] c0 })
    (hR : ∀ h' Ts c, Got s.heap h' q TO u1 u2 S xs ys 0 (min xs.size ys.size) #[] Ts c → R (.ok (.ret res)) { s with heap := h' }) :
    wpAny (model prog w) A.in1 (Builtin.List.listExtendWith (.ref S) (.ref q) res)
      (fun fin s' => match fin with | .done f => R (.ok f) s' | .again c' => c'.quiet = true ∧ codeAny (model prog w) A c' R s') (fun e s' => R (.error e) s') s := by
  have ty : s.TypeIs (.ref q) "zip" := ⟨_, hz, rfl⟩
  unfold Builtin.List.listExtendWith
  refine wpAny_bind (wpAny_typeOf (T := "zip") ty ?_)
  have h1 : Builtin.List.listSameRef (.ref S) (.ref q) = false := by simp [Builtin.List.listSameRef, o.q]
  have h2 : (Value.type "zip" == Value.type "list") = false := by decide
  have h3 : (Value.type "zip" == Value.type "tuple") = false := by decide
  simp only [h1, h2, h3, Bool.or_false, Bool.false_eq_true, if_false]
  refine wpAny_bind (wpAny_pyIter_zip hz (wpAny_bind (wpAny_holding ?_)))
  unfold Builtin.List.listLengthHint
  refine wpAny_bind (wpAny_specialOf ty LZ.no_len ?_); show wpAny _ A.in1 (specialOf (Value.ref q) (Str.ofString "__length_hint__") >>= _) _ _ _
  refine wpAny_bind (wpAny_specialOf ty LZ.no_hint (wpAny_pure ?_))
  show wpAny _ A.in1 (rule "list.extend.makes-room" >>= fun _ => Builtin.List.listTouch (.ref S) >>= fun _ => again (.builtin "list.extend.loop" ⟨[.ref S, .ref q, res], []⟩)) _ _ _
  refine wpAny_bind (wpAny_rule (wpAny_bind ?_)); show wpAny _ A.in1 (updateSeq S (·.push .none) >>= fun _ => updateSeq S (·.pop)) _ _ _
  refine wpAny_bind (wpAny_updateSeq hl rfl ?_); have r2 := Heap.get?_update_self (Obj.mapSeq (·.push Value.none)) hl rfl
  refine wpAny_updateSeq (hz := by seq_fits) r2 rfl ?_; have r3 := Heap.get?_update_self (Obj.mapSeq (·.pop)) r2 rfl
  have kp : ∀ d o, d ≠ S → s.heap.get? d = some o → ((s.heap.update S (Obj.mapSeq (·.push Value.none))).update S (Obj.mapSeq (·.pop))).get? d = some o := fun d o hd e => (Heap.get?_update_other _ _ (Ne.symm hd)).trans ((Heap.get?_update_other _ _ (Ne.symm hd)).trans e)
  have sz : ((s.heap.update S (Obj.mapSeq (·.push Value.none))).update S (Obj.mapSeq (·.pop))).objs.size = s.heap.objs.size := by rw [(Heap.SameBut.update ..).1, (Heap.SameBut.update ..).1]
  refine wpAny_pure ⟨plainId_quiet PySem.F.plain_extend_loop _, loopN (s := s) (tk := s.toks) hh o hmin (min xs.size ys.size) 0 _ #[] _ (Nat.zero_add _) rfl (F.keep o kp) r3 fun h' Ts c G => ?_⟩
  exact hR h' Ts c ⟨G.len, fun d ob d1 d2 d3 d4 d5 e => G.kp d ob d1 d2 d3 d4 d5 (kp d ob d1 e), fun i T hT => by rw [← sz]; exact G.at' i T hT, G.nd, G.l⟩
theorem initN (hh : A.handled = none) (o : Off S q TI TO u1 u2 l1 l2) (hmin : min xs.size ys.size ≤ sizeLine) (F : Run s.heap q TI TO u1 u2 l1 l2 S xs ys 0) (hz : IsZip s.heap q TI TO .none) (hl : s.heap.get? S = some { cls := .type "list", data := .seq #[] })
    (hR : ∀ h' Ts c, Got s.heap h' q TO u1 u2 S xs ys 0 (min xs.size ys.size) #[] Ts c → R (.ok (.ret .none)) { s with heap := h' }) :
    wpAny (model prog w) A.in1 (Builtin.«list.__init__» ⟨[.ref S, .ref q], []⟩)
      (fun fin s' => match fin with | .done f => R (.ok f) s' | .again c' => c'.quiet = true ∧ codeAny (model prog w) A c' R s') (fun e s' => R (.error e) s') s := by
  show wpAny _ A.in1 (do let old ← Builtin.List.listItems (.ref S); Builtin.List.listUpdate (.ref S) (fun _ => #[]); letGo old.toList.reverse; Builtin.List.listExtendWith (.ref S) (.ref q) .none) _ _ s
  refine wpAny_bind ?_; unfold Builtin.List.listItems; refine wpAny_bind (wpAny_seqItems hl rfl (wpAny_pure ?_))
  show wpAny _ A.in1 (updateSeq S (fun _ => #[]) >>= fun _ => letGo (#[] : Array Value).toList.reverse >>= fun _ => Builtin.List.listExtendWith (.ref S) (.ref q) .none) _ _ s
  refine wpAny_bind (wpAny_updateSeq hl rfl ?_); have r2 := Heap.get?_update_self (Obj.mapSeq (fun _ => (#[] : Array Value))) hl rfl
  have kp : ∀ d o, d ≠ S → s.heap.get? d = some o → (s.heap.update S (Obj.mapSeq (fun _ => (#[] : Array Value)))).get? d = some o := fun d o hd e => (Heap.get?_update_other _ _ (Ne.symm hd)).trans e
  have sz : (s.heap.update S (Obj.mapSeq (fun _ => (#[] : Array Value)))).objs.size = s.heap.objs.size := (Heap.SameBut.update ..).1
  refine wpAny_bind (wpAny_letGo (extendN (s := { s with heap := _ }) hh o hmin (F.keep o kp) (kp _ _ o.q.symm hz) r2 fun h' Ts c G => ?_))
  exact hR h' Ts c ⟨G.len, fun d ob d1 d2 d3 d4 d5 e => G.kp d ob d1 d2 d3 d4 d5 (kp d ob d1 e), fun i T hT => by rw [← sz]; exact G.at' i T hT, G.nd, G.l⟩
/-- ahead of list(..): the zip is there, and nothing else that it needs changes -/
structure Zp (h : Heap) (q TI TO u1 u2 l1 l2 : Addr) (xs ys : Array Value) : Prop where
  D : ZipApart q TI TO u1 u2 l1 l2
  z : IsZip h q TI TO .none
  o : ∃ a b, IsPair h TO a b
  i : IsPair h TI (.ref u1) (.ref u2)
  g1 : h.IsListIter u1 l1 0
  g2 : h.IsListIter u2 l2 0
  m1 : h.IsList l1 xs
  m2 : h.IsList l2 ys
theorem callN {E : Value → Shared → Prop} {Q : Value → Shared → Prop} (hh : A.handled = none) (hmin : min xs.size ys.size ≤ sizeLine) (F : Zp s.heap q TI TO u1 u2 l1 l2 xs ys)
    (hQ : ∀ (h' : Heap) (Ts : List Addr) (c : Nat), Ts.length = min xs.size ys.size → (∀ d o, d ≠ q → d ≠ TO → d ≠ u1 → d ≠ u2 → s.heap.get? d = some o → h'.get? d = some o) → (∀ (i : Nat) (T : Addr), Ts[i]? = some T → s.heap.objs.size < T ∧ ∃ x y, xs[i]? = some x ∧ ys[i]? = some y ∧ IsPair h' T x y) → Ts.Nodup →
      h'.get? s.heap.objs.size = some { cls := .type "list", dict := none, data := .seq (Ts.map Value.ref).toArray c, slots := #[] } → Q (.ref s.heap.objs.size) { s with heap := h' }) :
    wpAny (model prog w) A (call (.type "list") [.ref q]) Q E s := by
  refine callType_codes (Q₁ := fun obj s₁ => obj = .ref s.heap.objs.size ∧ s₁ = { s with heap := s.heap.push { cls := .type "list", data := .seq #[] } }) PySem.F.called_list (PySem.F.typeCall_list_1 _) PySem.F.entry_list_init (code_list_new _ ⟨rfl, rfl⟩) fun obj s₁ g => ?_
  obtain ⟨rfl, rfl⟩ := g
  have r0 : (s.heap.push { cls := .type "list", data := .seq #[] }).get? s.heap.objs.size = some { cls := .type "list", data := .seq #[] } := Heap.get?_push_size _ rfl
  have lt : ∀ {d o}, s.heap.get? d = some o → s.heap.objs.size ≠ d := fun e => Nat.ne_of_gt (Heap.lt_size e)
  have off : Off s.heap.objs.size q TI TO u1 u2 l1 l2 := by
    obtain ⟨_, e1, _⟩ := F.g1
    obtain ⟨_, e2, _⟩ := F.g2
    obtain ⟨_, e3, _⟩ := F.m1
    obtain ⟨_, e4, _⟩ := F.m2
    obtain ⟨_, _, e5⟩ := F.o
    exact ⟨lt F.z, lt F.i, lt e5, lt e1, lt e2, lt e3, lt e4⟩
  have up : ∀ d o, s.heap.get? d = some o → (s.heap.push { cls := .type "list", data := .seq #[] }).get? d = some o := fun d o e => Heap.get?_push_of_some _ e
  have sz : (s.heap.push { cls := .type "list", data := .seq #[] }).objs.size = s.heap.objs.size + 1 := Heap.size_push ..
  have rn : Run (s.heap.push { cls := .type "list", data := .seq #[] }) q TI TO u1 u2 l1 l2 s.heap.objs.size xs ys 0 := by
    obtain ⟨a, b, e5⟩ := F.o
    exact ⟨F.D, .inl (up _ _ F.z), ⟨a, b, up _ _ e5⟩, up _ _ F.i, F.g1.at fun ob e => up _ ob e, F.g2.at fun ob e => up _ ob e, F.m1.at fun ob e => up _ ob e, F.m2.at fun ob e => up _ ob e⟩
  refine ⟨⟨_, r0, rfl⟩, PySem.F.args_list_init_2 _ _, initN (A := A.in1) (s := { s with heap := s.heap.push { cls := .type "list", data := .seq #[] } }) hh off hmin rn (up _ _ F.z) r0 fun h' Ts c G => ⟨rfl, ?_⟩⟩
  refine hQ h' Ts c G.len (fun d ob d2 d3 d4 d5 e => G.kp d ob (Nat.ne_of_lt (Heap.lt_size e)) d2 d3 d4 d5 (up _ _ e)) (fun i T hT => ?_) G.nd (by simpa using G.l)
  obtain ⟨g1, g2, x, y, g3, g4, g5⟩ := G.at' i T hT
  rw [Nat.zero_add] at g3 g4
  dsimp only at g1
  exact ⟨by omega, x, y, g3, g4, g5⟩
end
end LZN
namespace Z
open L2 PySem PySem.Spec PyProof.Rows
open Evl (Ex ex_l ex_t ex_rd fresh_back)
abbrev Tr := Addr × V × V
/-- tuples, and the list of them, laid at once -/
def layT (H : Hp) : List Tr → Hp
  | [] => H
  | t :: r => layT (upd H t.1 (.tup [t.2.1, t.2.2])) r
def layN (H : Hp) (S : Addr) (P : List Tr) : Hp := upd (layT H P) S (.lst (P.map fun t => V.ref t.1))
theorem layT_off : ∀ {P : List Tr} {H : Hp} {d : Addr}, d ∉ P.map Prod.fst → layT H P d = H d
  | [], _, _, _ => rfl
  | t :: r, H, d, h => by
    rw [List.map_cons, List.mem_cons, not_or] at h
    rw [layT, layT_off h.2, upd_ne h.1]
theorem layT_at : ∀ {P : List Tr} {H : Hp} {t : Tr}, (P.map Prod.fst).Nodup → t ∈ P → layT H P t.1 = some (.tup [t.2.1, t.2.2])
  | t' :: r, H, t, nd, m => by
    rw [List.map_cons, List.nodup_cons] at nd
    rw [layT]
    rcases List.mem_cons.mp m with rfl | m
    · rw [layT_off nd.1, upd_same]
    · exact layT_at nd.2 m
theorem gr_layT : ∀ {P : List Tr} {F H : Hp}, Ex F H → (P.map Prod.fst).Nodup → (∀ t ∈ P, H t.1 = none) → Gr F H (layT F P) (layT H P)
  | [], F, H, e, _, _ => Gr.refl e
  | t :: r, F, H, e, nd, hf => by
    rw [List.map_cons, List.nodup_cons] at nd
    have g := Gr.new (o := .tup [t.2.1, t.2.2]) e (hf t List.mem_cons_self)
    refine g.trans (gr_layT g.s nd.2 fun t' m => ?_)
    have ne : t'.1 ≠ t.1 := fun z => nd.1 (by rw [← z]; exact List.mem_map_of_mem m)
    rw [upd_ne ne]
    exact hf t' (List.mem_cons_of_mem _ m)
def pairD (p : Da × Da) : Da := .tuple [p.1, p.2]
theorem rps_pairs {K : Fg} {F F' : Hp} (hx : Ex F F') : ∀ {xs ys : List V} {ds es : List Da} {P : List Tr}, P.map Prod.snd = xs.zip ys → Rps K F xs ds → Rps K F ys es → (∀ t ∈ P, F' t.1 = some (.tup [t.2.1, t.2.2])) → Rps K F' (P.map fun t => V.ref t.1) ((ds.zip es).map pairD)
  | _, _, _, _, P, e, .nil, _, _ => by
    rw [List.zip_nil_left] at e
    rw [List.map_eq_nil_iff.mp e]
    exact .nil
  | _, _, _, _, P, e, .cons _ _, .nil, _ => by
    rw [List.zip_nil_right] at e
    rw [List.map_eq_nil_iff.mp e]
    exact .nil
  | _, _, _, _, [], e, .cons _ _, .cons _ _, _ => by simp at e
  | _, _, _, _, t :: P, e, .cons r m, .cons r' m', h => by
    rw [List.zip_cons_cons, List.map_cons, List.cons.injEq] at e
    have h0 := h t List.mem_cons_self
    rw [e.1] at h0
    exact .cons (.tup (.inl (.inl h0)) (.cons (r.mono hx _ _) (.cons (r'.mono hx _ _) .nil))) (rps_pairs hx e.2 m m' fun t' m => h t' (List.mem_cons_of_mem _ m))
theorem vals_refs : ∀ P : List Tr, Vals (P.map fun t => V.ref t.1) (P.map fun t => Value.ref t.1)
  | [] => .nil
  | _ :: P => .cons rfl (vals_refs P)
section
variable {X : Cx} {pins : List (Addr × Obj)} {σ : L2.St} {H : Hp} {s : Shared} {h' : Heap}
theorem inv_layN {tk c : Nat} {S : Addr} {P : List Tr} (I : Inv X pins σ H s) (hk : ∀ d o, s.heap.get? d = some o → h'.get? d = some o) (bS : s.heap.objs.size ≤ S) (bP : ∀ t ∈ P, s.heap.objs.size ≤ t.1 ∧ t.1 ≠ S) (nd : (P.map Prod.fst).Nodup) (len : P.length ≤ sizeLine)
    (ob : ∀ t ∈ P, ∃ u v, RelV t.2.1 u ∧ RelV t.2.2 v ∧ IsPair h' t.1 u v) (l : h'.get? S = some { cls := .type "list", dict := none, data := .seq (P.map fun t => Value.ref t.1).toArray c, slots := #[] }) :
    Inv X pins σ (layN H S P) { s with heap := h', toks := tk } := by
  have zS : H S = none := I.hok.fresh bS
  have off : ∀ d, d ∉ P.map Prod.fst → d ≠ S → layN H S P d = H d := fun d e0 eS => by unfold layN; rw [upd_ne eS, layT_off e0]
  have atP : ∀ t ∈ P, layN H S P t.1 = some (.tup [t.2.1, t.2.2]) := fun t m => by unfold layN; rw [upd_ne (bP t m).2, layT_at nd m]
  have atS : layN H S P S = some (.lst (P.map fun t => V.ref t.1)) := by unfold layN; rw [upd_same]
  have low : ∀ d o, s.heap.get? d = some o → d ∉ P.map Prod.fst ∧ d ≠ S := fun d o e => ⟨fun m => by
    obtain ⟨t, mt, rfl⟩ := List.mem_map.mp m
    exact absurd (Heap.lt_size e) (Nat.not_lt.mpr (bP t mt).1), Nat.ne_of_lt (Nat.lt_of_lt_of_le (Heap.lt_size e) bS)⟩
  have kp : ∀ d u, H d = some u → layN H S P d = some u := fun d u e => by
    rw [off d (fun m => by
      obtain ⟨t, mt, rfl⟩ := List.mem_map.mp m
      rw [I.hok.fresh (bP t mt).1] at e
      cases e) (fun z => by rw [z, zS] at e; cases e)]
    exact e
  refine I.call' (ch := []) rfl ⟨fun d o g _ _ _ => hk d o g, fun d o g _ _ _ => ⟨o.slots, hk d o g⟩, fun d o g n _ => ?_, fun d o g _ => ⟨o, hk d o g⟩, fun d xs g => kp d _ g, fun d o u g => kp d _ g, fun d ps g => ⟨#[], by rw [kp d _ g]; simp⟩⟩ (fun d u g => ?_) I.bare fun d z => by simp at z
  · obtain ⟨w0, wS⟩ := low d o g
    rw [off d w0 wS]
    exact n
  · by_cases dS : d = S
    · subst dS
      rw [atS] at g
      cases g
      exact ⟨by rw [List.length_map]; exact len, _, c, vals_refs P, l⟩
    · by_cases d0 : d ∈ P.map Prod.fst
      · obtain ⟨t, mt, rfl⟩ := List.mem_map.mp d0
        rw [atP t mt] at g
        cases g
        obtain ⟨u, v, r1, r2, pr⟩ := ob t mt
        exact ⟨by show 2 ≤ sizeLine; decide, [u, v], .cons r1 (.cons r2 .nil), ⟨_, pr, rfl, _, rfl⟩⟩
      · rw [off d d0 dS] at g
        exact (I.hok d u g).stay (fun e v _ y => hk e v y) (fun e y => kp e _ y) fun e xs y => kp e _ y
theorem vals_at : ∀ {xs : List V} {its : List Value} {i : Nat} {x : V} {u : Value}, Vals xs its → xs[i]? = some x → its[i]? = some u → RelV x u
  | _, _, i, _, _, .nil, h, _ => by simp at h
  | _, _, 0, _, _, .cons r _, h, h' => by
    simp at h h'
    subst h h'
    exact r
  | _, _, i + 1, _, _, .cons _ t, h, h' => vals_at t (by simpa using h) (by simpa using h')
/-- list(zip(e, e2)), lists both -/
def rLZN (K : Fg) : List V → Hp → VK → Prop := fun vs H1 Q => ∃ p1 p2 xs ys, vs = [.ref p1, .ref p2] ∧ SqL K H1 p1 xs ∧ SqL K H1 p2 ys ∧
  ∀ (S : Addr) (P : List Tr), P.map Prod.snd = xs.zip ys → (P.map Prod.fst).Nodup → (∀ t ∈ P, H1 t.1 = none ∧ t.1 ≠ S) → H1 S = none → Q (.ref S) (layN H1 S P)
def tLZN (K : Fg) (ta : TA) : TE := fun σ H Q => ta σ H fun vs H1 => rLZN K vs H1 Q
variable {e e2 : Expr} {ta : TA} {p p2 pos pos2 : Pos}
theorem pe_listZN (hc : X.calm = true) (hg : Gl X "list") (hm : X.mg "list" = none) (hg2 : Gl X "zip") (hm2 : X.mg "zip" = none) (ha : PA X [e, e2] ta)
    (hs : starEach [e, e2] X.env = (false, eval e X.env) :: starEach [e2] X.env := by rfl) (hpl : (backTo pos2 (starEach [e2] X.env)).any (·.1) = false := by rfl)
    (na : starEach [.Call (.Name "zip" p2) [e, e2] [] pos2] X.env = (false, eval (.Call (.Name "zip" p2) [e, e2] [] pos2) X.env) :: starEach [] X.env := by rfl) :
    PE X (.Call (.Name "list" p) [.Call (.Name "zip" p2) [e, e2] [] pos2] [] pos) (tLZN X.K ta) := by
  refine ⟨fun pins s σ H Q I h => ?_⟩
  refine Call_ (ld_blt I hg hm boot_list (PyProof.Rows.callWith_type1 (args_cons (Call_ (ld_blt I hg2 hm2 PyProof.Rows.boot_zip (PyProof.Rows.callWith_type1 (thn (ha.run pos2 pins s σ H _ I h) fun us s1 ⟨vs, H1, I1, r1, q1⟩ => ?_) hs hpl))) na) na))
  obtain ⟨a, b, xs, ys, ex, hqx, hqy, q⟩ := q1
  subst ex
  cases r1 with
  | cons r rr =>
    cases rr with
    | cons r' rr =>
      cases rr
      cases r
      cases r'
      obtain ⟨its, rv, m1, z1⟩ := I1.list hqx
      obtain ⟨its2, rv2, m2, z2⟩ := I1.list hqy
      refine call_zip_2 m1.isList m2.isList fun h1 hz hTI hTO g1 g2 hsz hk => args_nil ?_
      have ap := PySem.W.ktu_apart s1.heap.objs.size a b m1.lt m2.lt
      have F : LZN.Zp h1 (s1.heap.objs.size + 4) (s1.heap.objs.size + 2) (s1.heap.objs.size + 3) s1.heap.objs.size (s1.heap.objs.size + 1) a b its.toArray its2.toArray := ⟨ap, hz, ⟨_, _, hTO⟩, hTI, g1, g2, m1.isList.at fun o y => hk _ o y, m2.isList.at fun o y => hk _ o y⟩
      have e1 := rv.length
      have e2 := rv2.length
      refine LZN.callN (s := { s1 with heap := h1 }) (I1.ok.hd hc) (by rw [List.size_toArray, List.size_toArray]; omega) F fun h2 Ts c k1 k2 k3 k4 k5 => ?_
      dsimp only at k1 k2 k3 k5 ⊢
      rw [List.size_toArray, List.size_toArray] at k1
      have up : ∀ d o, s1.heap.get? d = some o → h2.get? d = some o := fun d o y => by
        have hd := Heap.lt_size y
        exact k2 d o (Nat.ne_of_lt (Nat.lt_of_lt_of_le hd (Nat.le_add_right _ _))) (Nat.ne_of_lt (Nat.lt_of_lt_of_le hd (Nat.le_add_right _ _))) (Nat.ne_of_lt hd) (Nat.ne_of_lt (Nat.lt_of_lt_of_le hd (Nat.le_add_right _ _))) (hk d o y)
      have bS : s1.heap.objs.size ≤ h1.objs.size := by rw [hsz]; exact Nat.le_add_right _ _
      have zl : (xs.zip ys).length = Ts.length := by rw [List.length_zip, k1]; omega
      have mf : (Ts.zip (xs.zip ys)).map Prod.fst = Ts := List.map_fst_zip (by omega)
      have ms : (Ts.zip (xs.zip ys)).map Prod.snd = xs.zip ys := List.map_snd_zip (by omega)
      have at' : ∀ t ∈ Ts.zip (xs.zip ys), h1.objs.size < t.1 ∧ ∃ u v, RelV t.2.1 u ∧ RelV t.2.2 v ∧ IsPair h2 t.1 u v := fun t mt => by
        obtain ⟨i, hi⟩ := List.mem_iff_getElem?.mp mt
        obtain ⟨t1, t2, t3⟩ := t
        obtain ⟨i1, i2⟩ := List.getElem?_zip_eq_some.mp hi
        obtain ⟨i3, i4⟩ := List.getElem?_zip_eq_some.mp i2
        obtain ⟨w1, x, y, w2, w3, w4⟩ := k3 i t1 i1
        exact ⟨w1, x, y, vals_at rv i3 (by simpa using w2), vals_at rv2 i4 (by simpa using w3), w4⟩
      have ref : (Ts.map Value.ref) = (Ts.zip (xs.zip ys)).map fun t => Value.ref t.1 := by
        conv => lhs; rw [← mf]
        rw [List.map_map]
        rfl
      rw [ref] at k5
      refine ⟨.ref h1.objs.size, _, inv_layN (tk := s1.toks) (P := Ts.zip (xs.zip ys)) I1 up bS (fun t mt => ?_) (by rw [mf]; exact k4) (by rw [List.length_zip, zl, k1]; omega) (fun t mt => (at' t mt).2) k5, rfl, q _ _ ms (by rw [mf]; exact k4) (fun t mt => ?_) (I1.hok.fresh bS)⟩
      · have := (at' t mt).1
        exact ⟨by omega, Nat.ne_of_gt this⟩
      · have := (at' t mt).1
        exact ⟨I1.hok.fresh (by omega), Nat.ne_of_gt this⟩
def cLZN : CF := fun rs post => match rs with
  | [.val (.list ds), .val (.list es)] => post (.list ((ds.zip es).map pairD))
  | _ => False
theorem ok_LZN {K : Fg} : CallOk K (rLZN K) cLZN := fun F H a fu vs rs post Q e t hf k => by
  unfold cLZN at hf
  split at hf
  · rename_i ds es
    cases t with
    | cons r t =>
      cases t with
      | cons r' t =>
        cases t
        replace r : Rp K F _ (.list ds) := r
        replace r' : Rp K F _ (.list es) := r'
        cases r with
        | lst sq m =>
          cases r' with
          | lst sq' m' =>
            refine ⟨_, _, _, _, rfl, .inl (.inl (e _ _ sq)), .inl (.inl (e _ _ sq')), fun S P hP nd hf' hS => ?_⟩
            have nS : S ∉ P.map Prod.fst := fun mm => by
              obtain ⟨t, mt, rfl⟩ := List.mem_map.mp mm
              exact (hf' t mt).2 rfl
            have g1 := gr_layT e nd fun t mt => (hf' t mt).1
            have g2 := Gr.new (o := .lst (P.map fun t => V.ref t.1)) (p := S) g1.s (by rw [layT_off nS]; exact hS)
            have gr := g1.trans g2
            exact k _ _ _ _ hf gr (.lst upd_same (rps_pairs gr.f hP m m' fun t mt => by rw [upd_ne (hf' t mt).2, layT_at nd mt]))
  · exact hf.elim
theorem e_listZN {tr : DA} (hc : X.calm = true) (hg : Gl X "list") (hm : X.mg "list" = none) (hg2 : Gl X "zip") (hm2 : X.mg "zip" = none) (ha : PA X [e, e2] (upA X.K tr))
    (hs : starEach [e, e2] X.env = (false, eval e X.env) :: starEach [e2] X.env := by rfl) (hpl : (backTo pos2 (starEach [e2] X.env)).any (·.1) = false := by rfl)
    (na : starEach [.Call (.Name "zip" p2) [e, e2] [] pos2] X.env = (false, eval (.Call (.Name "zip" p2) [e, e2] [] pos2) X.env) :: starEach [] X.env := by rfl) :
    PE X (.Call (.Name "list" p) [.Call (.Name "zip" p2) [e, e2] [] pos2] [] pos) (up X.K (dCB cLZN tr)) := pe_to (pe_listZN hc hg hm hg2 hm2 ha hs hpl na) (cb_core ok_LZN)
end
end Z

/-! ### set(list of ints), sorted(set(..)) -/
namespace L2
open PySem PySem.Spec PyProof.Rows
section
variable {P : Program} {w : World} {A : Around} {E : Value → Shared → Prop} {s : Shared}
/-- a set just made, ahead of its filling -/
abbrev newSetZ (w : World) : Obj := { cls := .type "set", dict := none, data := .set #[] 0 (.fresh 0 0 (!w.params.followText "set-order")) }
theorem int_atZ {items : Array Value} {ns : List Int} (hit : IntsAre items.toList ns) (i : Nat) (v : Value) (hv : items[i]? = some v) : ∃ k t, ns[i]? = some k ∧ v = .int k t := by
  have el : items.size = ns.length := by rw [← Array.length_toList]; exact IntsAre.length hit
  have hi : i < ns.length := el ▸ (Array.getElem?_eq_some_iff.mp hv).1
  obtain ⟨t, e⟩ := PyProof.Rows.IntsAre.int_at hit i v ((Array.getElem?_toList (xs := items)).trans hv)
  have g : ns[i]? = some ns[i] := List.getElem?_eq_getElem hi
  exact ⟨ns[i], t, g, by rw [e, List.getD_eq_getElem?_getD, g]; rfl⟩
/-- what the making of the set leaves -/
def MadeZ (w : World) (s : Shared) (ns : List Int) (s2 : Shared) : Prop := ∃ h' tk c, s2 = { s with heap := h', toks := tk } ∧ SetR w h' s.heap.objs.size (fun j => decide (j ∈ ns)) c ∧ c ≤ ns.length ∧ ∀ b o, s.heap.get? b = some o → h'.get? b = some o
theorem init_listZ {l : Addr} {items : Array Value} (ns : List Int) (hh : A.handled = none) (hl : s.heap.IsList l items) (hit : IntsAre items.toList ns) (hb : ns.length + 1 < scanBound) {R : Result → Shared → Prop}
    (hR : ∀ s2, MadeZ w s ns s2 → R (.ok (.ret .none)) s2) :
    wpAny (model P w) A.in1 (Builtin.«set.__init__» ⟨[.ref s.heap.objs.size, .ref l], []⟩) (fun fin s' => match fin with | .done f => R (.ok f) s' | .again c' => c'.quiet = true ∧ codeAny (model P w) A c' R s') (fun e s' => R (.error e) s') { s with heap := s.heap.push (newSetZ w) } := by
  have el : items.size = ns.length := by rw [← Array.length_toList]; exact IntsAre.length hit
  have at0 : (s.heap.push (newSetZ w)).get? s.heap.objs.size = some (newSetZ w) := Heap.get?_push_size _ rfl
  have sz1 : (s.heap.push (newSetZ w)).objs.size = s.heap.objs.size + 1 := Heap.size_push ..
  obtain ⟨⟨cl, di, da, so⟩, z1, z2, nz, z3⟩ := hl
  simp only at z2 z3; subst z2; subst z3
  have lt := Heap.lt_size z1
  have z4 : (s.heap.push (newSetZ w)).get? l = some { cls := .type "list", dict := di, data := .seq items nz, slots := so } := Heap.get?_push_of_some _ z1
  have isl : (s.heap.push (newSetZ w)).IsList l items := ⟨_, z4, rfl, nz, rfl⟩
  have c1 := F.sub_list_set; have c2 := F.sub_list_frozenset
  have c3 : (Value.type "list" == Value.type "dict") = false := by decide
  unfold Builtin.«set.__init__» noKeywords Builtin.Frozenset.updateFrom
  generalize hP : pyIter = PJ; wp_walk; subst hP
  refine wpAny_pyIter_list isl ?_; refine wpAny_bind (wpAny_runValue ?_)
  have hd : A.in1.in1.handled = none := by simp [hh]
  have nI : l ≠ (s.heap.push (newSetZ w)).objs.size := by rw [sz1]; exact Nat.ne_of_lt (Nat.lt_succ_of_lt lt)
  have off : s.heap.objs.size ∉ [(s.heap.push (newSetZ w)).objs.size, l] := by
    rw [sz1]; intro m
    rcases List.mem_cons.mp m with e | e
    · exact absurd e (Nat.ne_of_lt (Nat.lt_succ_self _))
    · exact absurd (List.mem_singleton.mp e) (Nat.ne_of_gt lt)
  refine set_update_ints ((Walks.list hd _ l nI items).toS) s.heap.objs.size off ns el hb (int_atZ hit) items.size 0 _ (Nat.sub_zero _) (Nat.zero_le _) ⟨⟨_, Heap.get?_push_size _ rfl, rfl, rfl⟩, isl.push _⟩ ⟨0, Nat.le_refl 0, setR_new_at (Heap.get?_push_of_some _ at0)⟩ fun t2 k2 mv k3 S2 => ?_
  obtain ⟨hp2, gn2, dr2, tk2, os2⟩ := t2
  have e1 : gn2 = s.gens := mv.gens; have e2 : dr2 = s.drawn := mv.drawn; have e3 : os2 = s.os := mv.os
  subst e1 e2 e3
  refine wpAny_pure (wpAny_pure (hR _ ⟨hp2, tk2, k2, rfl, S2, by omega, fun b ob eb => ?_⟩))
  have b0 : b < s.heap.objs.size := Heap.lt_size eb
  refine mv.heap b ob (fun m => ?_) (Heap.get?_push_of_some _ (Heap.get?_push_of_some _ eb))
  rcases List.mem_cons.mp m with e | m
  · exact absurd e (Nat.ne_of_lt b0)
  · have e : b = (s.heap.push (newSetZ w)).objs.size := List.mem_singleton.mp m
    rw [sz1] at e
    exact absurd e (Nat.ne_of_lt (Nat.lt_succ_of_lt b0))
theorem call_set_listZ {l : Addr} {items : Array Value} (ns : List Int) {Q : Value → Shared → Prop} (hh : A.handled = none) (hl : s.heap.IsList l items) (hit : IntsAre items.toList ns) (hb : ns.length + 1 < scanBound)
    (h : ∀ s2, MadeZ w s ns s2 → Q (.ref s.heap.objs.size) s2) : wpAny (model P w) A (call (.type "set") [.ref l]) Q E s := by
  have ⟨cx, tx, mx⟩ := F.called_set.mro
  have i1 := F.called_set.made; have i2 := F.called_set.sub; have i3 := F.called_set.notType; have i4 := F.called_set.canCreate
  refine wpAny_call (codeAny_of_tree (show wpAny _ _ (callAny (.type "set") _) _ _ _ from wpAny_pure ⟨Code.quiet_builtin _ (by decide +kernel), codeAny_builtin F.entry_type_call ?_⟩))
  rw [Around.under_plain (weight_type_call_type "set" [.ref l] []) rfl]
  have i5 := F.typeCall_set_1 (.ref l)
  (repeat (any_goals (first | assumption | wp_step)))
  refine codeAny_mono (code_set_led1 (.ref l) (E := E) (Q₁ := fun ob t1 => ob = .ref s.heap.objs.size ∧ t1 = { s with heap := s.heap.push (newSetZ w) }) ⟨rfl, rfl⟩) fun r1 t1 g1 => ?_
  rcases r1 with er | fl
  · exact g1
  cases fl with
  | ret ob =>
    obtain ⟨rfl, rfl⟩ := g1
    have at0 : (s.heap.push (newSetZ w)).get? s.heap.objs.size = some (newSetZ w) := Heap.get?_push_size _ rfl
    have ty : Shared.TypeIs { s with heap := s.heap.push (newSetZ w) } (.ref s.heap.objs.size) "set" := ⟨_, at0, rfl⟩
    have i6 := F.called_set.init.lookup; have i7 := F.called_set.init.bind (.ref s.heap.objs.size)
    (repeat (any_goals (first | assumption | wp_step)))
    refine codeAny_mono (codeAny_call_builtin (R := wants (fun r t2 => r = .none ∧ MadeZ w s ns t2) E) F.called_set.init.plain F.entry_set_init (check_set_init_1 ty ?_)) fun r2 t2 g2 => ?_
    · exact init_listZ (A := A.in1) ns (by simpa using hh) hl hit hb fun s2 g => ⟨rfl, g⟩
    · rcases r2 with er | fl2
      · exact g2
      cases fl2 with
      | ret r =>
        obtain ⟨rfl, g2⟩ := g2
        (repeat (any_goals (first | assumption | wp_step)))
        exact h _ g2
      | _ => exact g2.elim
  | _ => exact g1.elim
end
end L2
namespace Z
open L2 PySem PySem.Spec PyProof.Rows
open Evl (Ex ex_l ex_t ex_rd fresh_back)
/-- set(l), l a list of ints -/
def rSetZ (K : Fg) (w : World) : List V → Hp → VK → Prop := fun vs H Q => ∃ (a : Addr) (ns : List Int), vs = [V.ref a] ∧ SqL K H a (ns.map V.int) ∧ ns.length < 64 ∧ ∀ (p : Addr) (c : Nat), c ≤ ns.length → H p = none → Q (.ref p) (upd H p (SetO w p (fun j => decide (j ∈ ns)) c))
def cSortSet : CF := fun rs post => match rs with
  | [.val (.list ds)] => (match intsD ds with
    | some ns => ns.length < 64 ∧ ∀ ns' : List Int, ns'.Pairwise (· < ·) → (∀ k : Int, k ∈ ns' ↔ k ∈ ns) → ns'.length ≤ ns.length → post (.list (ns'.map PyData.int))
    | none => False)
  | _ => False
section
variable {X : Cx}
theorem cr_setZ (hc : X.calm = true) : CallR X (.type "set") (rSetZ X.K X.w) := by
  intro pins s σ H vs us Q I r h
  obtain ⟨a, ns, rfl, hs, h64, q⟩ := h
  obtain ⟨its, rv, hl, hz⟩ := I.list hs
  rw [Vals.ref1 r]
  have hi : IntsAre its.toArray.toList ns := by
    have := ints_of_vals rv
    simpa using this
  refine call_set_listZ ns (I.ok.hd hc) hl.isList hi (by have : ns.length + 1 < 4096 := by omega
                                                         exact this) fun s2 m => ?_
  obtain ⟨h', tk, c, rfl, R, hcn, hk⟩ := m
  exact ⟨.ref _, upd H s.heap.objs.size (SetO X.w s.heap.objs.size (fun j => decide (j ∈ ns)) c), I.laid (t' := tk) (fun b u e => hk b u e) (Nat.le_refl _) (setO_new R), rfl, q _ _ hcn (I.hok.fresh (Nat.le_refl _))⟩
variable {e : Expr} {tr : DA} {p p2 pos pos2 : Pos}
theorem e_sortSet (hc : X.calm = true) (hg : Gl X "sorted") (hm : X.mg "sorted" = none) (hg2 : Gl X "set") (hm2 : X.mg "set" = none) (ha : PA X [e] (upA X.K tr))
    (he : starEach [e] X.env = (false, eval e X.env) :: starEach [] X.env := by rfl)
    (na : starEach [.Call (.Name "set" p2) [e] [] pos2] X.env = (false, eval (.Call (.Name "set" p2) [e] [] pos2) X.env) :: starEach [] X.env := by rfl) (hpl : (backTo pos (starEach [] X.env)).any (·.1) = false := by rfl) (hpl2 : (backTo pos2 (starEach [] X.env)).any (·.1) = false := by rfl) :
    PE X (.Call (.Name "sorted" p) [.Call (.Name "set" p2) [e] [] pos2] [] pos) (up X.K (dCB cSortSet tr)) :=
  pe_to (pe_callB (cr_sortedSet hc) hg hm (by decide +kernel) (pa_cons (pe_callTy (cr_setZ hc) hg2 hm2 (by decide +kernel) ha (by decide) (by decide) he hpl2) pa_nil na) (by decide) (by decide) na hpl) fun σ H Q q => by
  obtain ⟨c, g, tv, tr', F, ad, post, s, t, k⟩ := q
  refine ⟨c, g, tv, tr', F, ad, _, s, t, fun rs g1 vs H1 F1 a1 t1 s1 hl => ?_⟩
  obtain ⟨m1, m2⟩ := s1.tmp.args hl
  replace t1 : cSortSet rs fun z => post (.val z) g1 := t1
  unfold cSortSet at t1
  split at t1
  · rename_i ds
    split at t1
    · rename_i ns qn
      obtain ⟨v, rfl, r⟩ := m1.v1
      cases r with
      | lst sq m =>
        rw [ints_v m qn] at sq
        refine ⟨_, ns, rfl, .inl (.inl (s1.eh _ _ sq)), t1.1, fun pa cn hcn hp => ?_⟩
        refine ⟨pa, _, cn, rfl, upd_same, by omega, fun ns' pb w1 w2 w3 hp' => ?_⟩
        have h1 : H1 pb = none := by
          by_cases z : pb = pa
          · subst z; rw [upd_same] at hp'; cases hp'
          · rw [upd_ne z] at hp'; exact hp'
        have ne : pb ≠ pa := fun z => by subst z; rw [upd_same] at hp'; cases hp'
        have ga : Gr F1 H1 F1 (upd H1 pa (SetO X.w pa (fun j => decide (j ∈ ns)) cn)) := ⟨Ex.refl _, Ex.new hp, s1.eh.trans (Ex.new hp), fun b hb => .inl hb⟩
        have gb := Gr.new (o := .lst (ns'.map V.int)) ga.s hp'
        exact k _ g1 _ _ _ a1 (t1.2 ns' w1 (fun k => by rw [w2 k, decide_eq_true_iff]) (by omega)) ((((s1.pop m2).grow ga).grow gb).push (r := .val (.list (ns'.map PyData.int))) (.lst upd_same (ints_rp ns')))
    · exact t1.elim
  · exact t1.elim
end
end Z

namespace Z
open L2 PySem PySem.Spec PyProof.Rows
/-! ### down against up, half_up against half_down: by odd parts -/
theorem gcd_one_r (x : Int) : Int.gcd x 1 = 1 := by simp
theorem abv_nev {i p : Int} : Abv i p nev ↔ p ≤ i := by
  show ((1 : Int) * p < i * 1 ∨ ((1 : Int) * p = i * 1 ∧ true = true)) ↔ _
  simp only [Int.one_mul, Int.mul_one, and_true]
  omega
theorem abv_alw {i p : Int} : Abv i p alw ↔ 0 < i := by
  show ((0 : Int) * p < i * 1 ∨ ((0 : Int) * p = i * 1 ∧ false = true)) ↔ _
  simp
theorem abv_tieU {i p : Int} : Abv i p tieU ↔ p ≤ 2 * i := by
  show ((1 : Int) * p < i * 2 ∨ ((1 : Int) * p = i * 2 ∧ true = true)) ↔ _
  simp only [Int.one_mul, and_true]
  omega
theorem abv_tieD {i p : Int} : Abv i p tieD ↔ p < 2 * i := by
  show ((1 : Int) * p < i * 2 ∨ ((1 : Int) * p = i * 2 ∧ false = true)) ↔ _
  simp only [Int.one_mul, Bool.false_eq_true, and_false, or_false]
  omega
theorem low_2 {x y : Int} (hy : 0 < y) : 0 < (low x y).2 := by
  unfold low
  exact Int.ediv_pos_of_pos_of_dvd hy (Int.natCast_nonneg _) (Int.gcd_dvd_right x y)
theorem pos_2 {x w : Int} (hx : 0 < x) (hw : 1 ≤ w) : 0 < (posI x 1 w).2 := by
  obtain ⟨p, q, he⟩ : ∃ p q : Nat, (cellI x 1 w).2 = (p : Int) - q := ⟨((cellI x 1 w).2).toNat, (-(cellI x 1 w).2).toNat, by omega⟩
  rw [(cell_pq hx (show (0 : Int) < 1 by decide) hw p q he).2.2.2]
  exact low_2 (Int.mul_pos (by decide) (pow2_pos p))
theorem dfx_du {w x : Int} (hx : 0 < x) (hw : 1 ≤ w) : DfX w (byR .dn) (byR .up) 1 1 x ↔ w < bl (oddN x.toNat) := by
  unfold DfX Dif
  rw [Int.mul_one]
  have pl := pos_lw (w := w) hx (show (0 : Int) < 1 by decide) (gcd_one_r x) hw
  have o1 : oddN (1 : Int).toNat = 1 := by
    show oddN 1 = 1
    exact oddN_odd (by decide)
  rw [o1] at pl
  have r := pos_rng (w := w) hx (show (0 : Int) < 1 by decide) hw
  have p2 := pos_2 hx hw
  generalize posI x 1 w = y at *
  show ¬(Abv y.1 y.2 nev ↔ Abv y.1 y.2 alw) ↔ _
  rw [abv_nev, abv_alw]
  by_cases z : y.1 = 0
  · have q := (pl.mp z).2
    rw [z]
    exact ⟨fun h => absurd ⟨fun a => by omega, fun a => by omega⟩ h, fun h => by omega⟩
  · obtain ⟨r1, r2⟩ := r z
    have q : ¬bl (oddN x.toNat) ≤ w := fun q => z (pl.mpr ⟨rfl, q⟩)
    exact ⟨fun _ => by omega, fun _ h => by have := h.mpr (by omega); omega⟩
theorem half_pos {w x : Int} (hx : 0 < x) (hw : 1 ≤ w) : ((posI x 1 w).1 ≠ 0 ∧ (posI x 1 w).2 = 2 * (posI x 1 w).1) ↔ bl (oddN x.toNat) = w + 1 := by
  obtain ⟨x', rfl, hx'⟩ := natI hx
  obtain ⟨w', rfl⟩ : ∃ w' : Nat, w = (w' : Int) + 1 := ⟨(w - 1).toNat, by omega⟩
  have ew : ((w' : Int) + 1).toNat = w' + 1 := by omega
  have ew2 : ((w' : Int) + 1 - 1).toNat = w' := by omega
  obtain ⟨o1, b, e1⟩ := oddN_spec x' hx'
  have op := oddN_pos hx'
  have size : bl (oddN x' : Int) = (w' : Int) + 1 + 1 ↔ 2 ^ (w' + 1) ≤ oddN x' ∧ oddN x' < 2 ^ (w' + 2) := by
    have a1 := bl_le_iff op (w := w' + 1)
    have a2 := bl_le_iff op (w := w' + 2)
    have c1 : ((w' + 1 : Nat) : Int) = (w' : Int) + 1 := by omega
    have c2 : ((w' + 2 : Nat) : Int) = (w' : Int) + 1 + 1 := by omega
    rw [c1] at a1
    rw [c2] at a2
    constructor
    · intro h
      exact ⟨Nat.le_of_not_lt fun q => by have := a1.mpr q; omega, a2.mp (by omega)⟩
    · rintro ⟨h1, h2⟩
      have := a2.mpr h2
      have : ¬bl (oddN x' : Int) ≤ (w' : Int) + 1 := fun q => by have := a1.mp q; omega
      omega
  show _ ↔ bl (oddN x' : Int) = (w' : Int) + 1 + 1
  rw [size]
  constructor
  · rintro ⟨h1, h2⟩
    obtain ⟨p, q, he⟩ : ∃ p q : Nat, (cellI (x' : Int) 1 ((w' : Int) + 1)).2 = (p : Int) - q := ⟨((cellI (x' : Int) 1 ((w' : Int) + 1)).2).toNat, (-(cellI (x' : Int) 1 ((w' : Int) + 1)).2).toNat, by omega⟩
    obtain ⟨c1, c2, c3, c4⟩ := cell_pq hx (show (0 : Int) < 1 by decide) hw p q he
    rw [ew2] at c2
    rw [ew] at c3
    rw [Int.one_mul] at c1 c4
    have P0 := pow2_pos p
    have lv := low_val (x := (x' : Int) * 2 ^ q % 2 ^ p) P0
    rw [← c4] at lv
    rw [h2] at lv
    have lp : 0 < (posI (x' : Int) 1 ((w' : Int) + 1)).1 := (pos_rng hx (by decide) hw h1).1
    generalize (posI (x' : Int) 1 ((w' : Int) + 1)).1 = y at *
    have hR : (2 : Int) ^ p = 2 * ((x' : Int) * 2 ^ q % 2 ^ p) := by
      have : y * 2 ^ p = y * (2 * ((x' : Int) * 2 ^ q % 2 ^ p)) := by rw [lv]; grind
      exact Int.eq_of_mul_eq_mul_left (by omega) this
    have dm := Int.mul_ediv_add_emod ((x' : Int) * 2 ^ q) (2 ^ p)
    rw [← c1] at dm
    generalize (cellI (x' : Int) 1 ((w' : Int) + 1)).1 = k at *
    obtain ⟨k', rfl⟩ : ∃ k' : Nat, k = (k' : Int) := ⟨k.toNat, by have := pow2_pos w'; omega⟩
    have e2 : (x' : Int) * 2 ^ (q + 1) = (2 * (k' : Int) + 1) * 2 ^ p := by
      rw [Int.pow_succ]
      grind
    have e3 : x' * 2 ^ (q + 1) = (2 * k' + 1) * 2 ^ p := by exact_mod_cast e2
    have e4 : oddN x' * 2 ^ (b + (q + 1)) = (2 * k' + 1) * 2 ^ p := by
      rw [Nat.pow_add, ← Nat.mul_assoc, ← e1]
      exact e3
    have e5 := (odd_uniq o1 (by omega) e4).1
    have c2 : 2 ^ w' ≤ k' := by exact_mod_cast c2
    have c3 : k' < 2 ^ (w' + 1) := by exact_mod_cast c3
    rw [e5]
    rw [Nat.pow_succ] at c3 ⊢
    rw [show w' + 2 = w' + 1 + 1 by omega, Nat.pow_succ, Nat.pow_succ]
    omega
  · rintro ⟨h1, h2⟩
    obtain ⟨k', hk⟩ : ∃ k', oddN x' = 2 * k' + 1 := ⟨oddN x' / 2, by omega⟩
    have k1 : 2 ^ w' ≤ k' := by rw [Nat.pow_succ] at h1; omega
    have k2 : k' < 2 ^ (w' + 1) := by rw [show w' + 2 = w' + 1 + 1 by omega, Nat.pow_succ] at h2; omega
    have B0 : 0 < 2 ^ b := Nat.pow_pos (by decide)
    have ex : (x' : Int) = (k' : Int) * 2 ^ (b + 1) + 2 ^ b := by
      have : x' = k' * 2 ^ (b + 1) + 2 ^ b := by
        rw [Nat.pow_succ]
        rw [hk] at e1
        grind
      exact_mod_cast this
    have P0 := pow2_pos (b + 1)
    have Q0 := pow2_pos b
    have pq : (2 : Int) ^ (b + 1) = 2 * 2 ^ b := by rw [Int.pow_succ]; omega
    have dv : (x' : Int) * 2 ^ 0 / (1 * 2 ^ (b + 1)) = k' := by
      rw [Int.pow_zero, Int.mul_one, Int.one_mul, ex, Int.mul_comm, Int.mul_add_ediv_left _ _ (by omega), Int.ediv_eq_zero_of_lt (by omega) (by omega), Int.add_zero]
    have md : (x' : Int) * 2 ^ 0 % (1 * 2 ^ (b + 1)) = 2 ^ b := by
      have := Int.emod_def ((x' : Int) * 2 ^ 0) (1 * 2 ^ (b + 1))
      rw [dv] at this
      rw [this, Int.pow_zero, Int.mul_one, Int.one_mul, ex]
      grind
    obtain ⟨c1, c2⟩ := cell_at hx (show (0 : Int) < 1 by decide) hw (p := b + 1) (q := 0) (by rw [dv, ew2]; exact_mod_cast k1) (by rw [dv, ew]; exact_mod_cast k2)
    rw [md, Int.one_mul] at c2
    have lv := low_val (x := (2 : Int) ^ b) P0
    rw [← c2, pq] at lv
    generalize posI (x' : Int) 1 ((w' : Int) + 1) = y at *
    have e : y.2 = 2 * y.1 := by
      have : 2 ^ b * y.2 = 2 ^ b * (2 * y.1) := by rw [← lv]; grind
      exact Int.eq_of_mul_eq_mul_left (by omega) this
    refine ⟨fun z => ?_, e⟩
    obtain ⟨l1, l2, _⟩ := low_pos Q0 P0
    rw [← c2] at l1
    omega
theorem dfx_hh {w x : Int} (hx : 0 < x) (hw : 1 ≤ w) : DfX w (byR .hu) (byR .hd) 1 1 x ↔ bl (oddN x.toNat) = w + 1 := by
  rw [← half_pos hx hw]
  unfold DfX Dif
  rw [Int.mul_one]
  have p2 := pos_2 hx hw
  generalize posI x 1 w = y at *
  show ¬(Abv y.1 y.2 tieU ↔ Abv y.1 y.2 tieD) ↔ _
  rw [abv_tieU, abv_tieD]
  constructor
  · intro h
    have e : y.2 = 2 * y.1 := by
      rcases Int.lt_trichotomy y.2 (2 * y.1) with q | q | q
      · exact absurd ⟨fun _ => q, fun _ => by omega⟩ h
      · exact q
      · exact absurd ⟨fun a => by omega, fun a => by omega⟩ h
    exact ⟨by omega, e⟩
  · rintro ⟨h1, h2⟩ h
    have := h.mp (by omega)
    omega
end Z

namespace Z
open L2 PySem PySem.Spec PyProof.Rows
/-! ### ties of sums and distances with shifts -/
abbrev one1 (w : Int) (r : Ru) : List (Int × Ru) := [(w, r)]
theorem chT_one (w : Int) (r : Ru) : chT (one1 w r) = (w, byR r) := rfl
/-- the bits of the odd part -/
def obI (x : Int) : Int := bl (oddN x.toNat)
theorem ob_small {r : Int} {w : Nat} (hr : 0 < r) (h : r < 2 ^ w) : obI r ≤ w := by
  obtain ⟨r', rfl, h0⟩ := natI hr
  have h' : r' < 2 ^ w := by exact_mod_cast h
  show bl (oddN r' : Int) ≤ w
  exact (bl_le_iff (oddN_pos h0)).mpr (Nat.lt_of_le_of_lt (oddN_le h0) h')
theorem ob_top {r : Int} {w : Nat} (h1 : 2 ^ w ≤ r) (h2 : r < 2 ^ (w + 1)) : obI r = w + 1 ↔ r % 2 = 1 := by
  have p := pow2_pos w
  obtain ⟨r', rfl, h0⟩ := natI (show 0 < r by omega)
  have h1' : 2 ^ w ≤ r' := by exact_mod_cast h1
  have h2' : r' < 2 ^ (w + 1) := by exact_mod_cast h2
  show bl (oddN r' : Int) = _ ↔ _
  have op := oddN_pos h0
  by_cases e : r' % 2 = 1
  · rw [oddN_odd e]
    have a1 := bl_le_iff h0 (w := w)
    have a2 := bl_le_iff h0 (w := w + 1)
    have := a2.mpr h2'
    have n : ¬bl (r' : Int) ≤ w := fun q => by have := a1.mp q; omega
    exact ⟨fun _ => by omega, fun _ => by omega⟩
  · have ev : r' % 2 = 0 := by omega
    rw [oddN_even h0 ev]
    have hh : 0 < r' / 2 := by
      have : 0 < 2 ^ w := Nat.pow_pos (by decide)
      omega
    have a1 := (bl_le_iff (oddN_pos hh) (w := w)).mpr (Nat.lt_of_le_of_lt (oddN_le hh) (by rw [Nat.pow_succ] at h2'; omega))
    exact ⟨fun q => by omega, fun q => by omega⟩
theorem two_one {w : Int} (w1 : 1 ≤ w) (w2 : w ≤ 100) (r r' : Ru) : Two (one1 w r) (one1 w r') := by
  have c : ∀ r, Chn1 (one1 w r) := fun r => ⟨by simp, by simp, fun s hs => by
    rw [List.mem_singleton] at hs
    subst hs
    exact ⟨w1, w2⟩⟩
  exact ⟨c r, c r', rfl⟩
theorem tie_iff {w s a b : Int} {u : Bool} (hw : 1 ≤ w) : sP (one1 w .hu) (one1 w .hd) s u a b = true ↔ 0 < resI s u a b ∧ obI (resI s u a b) = w + 1 := by
  unfold sP
  rw [Bool.and_eq_true, decide_eq_true_iff, decide_eq_true_iff]
  refine and_congr_right fun h => ?_
  exact dfx_hh h hw
theorem every_iff {w s a b : Int} {u : Bool} (hw : 1 ≤ w) : sP (one1 w .dn) (one1 w .up) s u a b = true ↔ 0 < resI s u a b ∧ w < obI (resI s u a b) := by
  unfold sP
  rw [Bool.and_eq_true, decide_eq_true_iff, decide_eq_true_iff]
  refine and_congr_right fun h => ?_
  exact dfx_du h hw
theorem res_lt {s a b B : Int} {u : Bool} (ha : 0 ≤ a * 2 ^ s.toNat) (hb : 0 ≤ b * 2 ^ (-s).toNat) (h : a * 2 ^ s.toNat + b * 2 ^ (-s).toNat < B) : resI s u a b < B := by
  unfold resI
  cases u
  · rw [if_neg (by decide)]
    unfold dist
    split <;> omega
  · rw [if_pos rfl]
    exact h
theorem no_tie {w s a b : Int} {W : Nat} {u : Bool} (hW : w = W) (hw : 1 ≤ w) (ha : 0 ≤ a * 2 ^ s.toNat) (hb : 0 ≤ b * 2 ^ (-s).toNat) (h : a * 2 ^ s.toNat + b * 2 ^ (-s).toNat < 2 ^ W) : ¬sP (one1 w .hu) (one1 w .hd) s u a b = true := by
  rw [tie_iff hw]
  rintro ⟨h1, h2⟩
  have := ob_small h1 (res_lt (u := u) ha hb h)
  omega
/-- a great operand, shifted to the top, and a small one -/
theorem tie_top {w x y : Int} {W G t : Nat} {u : Bool} (hW : w = W) (w1 : 1 ≤ W) (e : W + 1 = t + G) (g1 : 1 ≤ G) (x1 : 2 ^ (G - 1) ≤ x) (x2 : x < 2 ^ G) (y1 : 0 < y) (y2 : y < 2 ^ t) (ht : 1 ≤ t) :
    sP (one1 w .hu) (one1 w .hd) t u x y = true ↔ y % 2 = 1 ∧ (u = true ∨ x ≠ 2 ^ (G - 1)) := by
  have T0 := pow2_pos t
  have te : (2 : Int) ^ t = 2 * 2 ^ (t - 1) := by
    obtain ⟨t', rfl⟩ : ∃ t', t = t' + 1 := ⟨t - 1, by omega⟩
    rw [Nat.add_sub_cancel, Int.pow_succ]
    omega
  have eW : (2 : Int) ^ W = 2 ^ (G - 1) * 2 ^ t := by rw [← Int.pow_add]; congr 1; omega
  have eW1 : (2 : Int) ^ (W + 1) = 2 ^ G * 2 ^ t := by rw [← Int.pow_add]; congr 1; omega
  rw [tie_iff (by omega)]
  have r : resI (t : Int) u x y = if u = true then x * 2 ^ t + y else dist (x * 2 ^ t) y := by
    unfold resI
    rw [show ((t : Int)).toNat = t by omega, show (-(t : Int)).toNat = 0 by omega, Int.pow_zero, Int.mul_one]
  rw [r]
  have lx := Int.mul_le_mul_of_nonneg_right x1 (Int.le_of_lt T0)
  have ux : (x + 1) * 2 ^ t ≤ 2 ^ G * 2 ^ t := Int.mul_le_mul_of_nonneg_right (by omega) (Int.le_of_lt T0)
  rw [Int.add_mul, Int.one_mul] at ux
  have par : (x * 2 ^ t) % 2 = 0 := by rw [te, ← Int.mul_assoc, Int.mul_comm x 2, Int.mul_assoc]; exact Int.mul_emod_right 2 _
  have W0 := pow2_pos W
  cases u
  · rw [if_neg (by decide)]
    have P1 : (1 : Int) * 2 ^ t ≤ x * 2 ^ t := Int.mul_le_mul_of_nonneg_right (by have := pow2_pos (G - 1); omega) (Int.le_of_lt T0)
    rw [Int.one_mul] at P1
    have d : dist (x * 2 ^ t) y = x * 2 ^ t - y := by unfold dist; rw [if_neg (by omega)]
    rw [d]
    by_cases q : x = 2 ^ (G - 1)
    · have := ob_small (r := x * 2 ^ t - y) (w := W) (by omega) (by rw [eW, ← q]; omega)
      constructor
      · rintro ⟨_, h2⟩
        omega
      · rintro ⟨_, h | h⟩
        · cases h
        · exact absurd q h
    · have x3 : (2 ^ (G - 1) + 1) * 2 ^ t ≤ x * 2 ^ t := Int.mul_le_mul_of_nonneg_right (by omega) (Int.le_of_lt T0)
      rw [Int.add_mul, Int.one_mul] at x3
      have tp := ob_top (r := x * 2 ^ t - y) (w := W) (by omega) (by omega)
      rw [show w + 1 = (W : Int) + 1 by omega, tp]
      constructor
      · rintro ⟨_, h⟩
        exact ⟨by omega, .inr q⟩
      · rintro ⟨h, _⟩
        exact ⟨by omega, by omega⟩
  · rw [if_pos rfl]
    have tp := ob_top (r := x * 2 ^ t + y) (w := W) (by omega) (by omega)
    rw [show w + 1 = (W : Int) + 1 by omega, tp]
    constructor
    · rintro ⟨_, h⟩
      exact ⟨by omega, .inl rfl⟩
    · rintro ⟨h, _⟩
      exact ⟨by omega, by omega⟩
/-- the first of all shifts, told by its place -/
theorem fstS_at {P : Int → Int → Int → Prop} {a0 a1 b0 b1 : Int} {s : Int} {m N : Nat} {v : Int × Int} (hm : m ≤ N) (m0 : 0 < m) (hs : s = m ∨ s = -(m : Int)) (no : ∀ z : Int, -(m : Int) < z → z < m → Fst2 (P z) a0 a1 b0 b1 none) (no2 : s = -(m : Int) → Fst2 (P m) a0 a1 b0 b1 none) (yes : Fst2 (P s) a0 a1 b0 b1 (some v)) :
    FstS P a0 a1 b0 b1 (shs N) (some (s, v.1, v.2)) := by
  obtain ⟨m', rfl⟩ : ∃ m', m = m' + 1 := ⟨m - 1, by omega⟩
  obtain ⟨tt, e, _⟩ := shs_app (m' + 1) (N - (m' + 1))
  rw [show m' + 1 + (N - (m' + 1)) = N by omega] at e
  rw [e, shs, List.append_assoc]
  refine fstS_pre (fun z hz => ?_) ?_
  · obtain ⟨z1, z2⟩ := shs_mem.mp hz
    exact no z (by omega) (by omega)
  · rcases hs with rfl | rfl
    · exact .inl ⟨v, by
        have : ((m' : Int) + 1) = ((m' + 1 : Nat) : Int) := by omega
        rw [this]
        exact yes, by rw [show ((m' : Int) + 1) = ((m' + 1 : Nat) : Int) by omega]⟩
    · have n2 := no2 rfl
      refine .inr ⟨by rw [show ((m' : Int) + 1) = ((m' + 1 : Nat) : Int) by omega]; exact n2, .inl ⟨v, ?_, ?_⟩⟩
      · rw [show -((m' : Int) + 1) = -((m' + 1 : Nat) : Int) by omega]
        exact yes
      · rw [show -((m' : Int) + 1) = -((m' + 1 : Nat) : Int) by omega]
/-- x, y, z = e, [], []: y and z own lists -/
def dPar3E (i j l : Nat) (ta : DE) : DS := fun d g => ta g fun r g1 => d.nx (((g1.set j (.own [])).set l (.own [])).set i (rsv r))
section
variable {X : Cx} {pos : Pos}
theorem s_par3E {i j l : Nat} {x y z : Str} {a : Expr} {ta : DE} {px py pz pt : Pos} {kt k2 : Nat} {pt2 q2 q3 : Pos} (hc : X.calm = true) (hN : X.N.Nodup) (hi : X.N[i]? = some x) (hj : X.N[j]? = some y) (hl : X.N[l]? = some z) (hij : i ≠ j) (hil : i ≠ l) (hjl : j ≠ l)
    (hx : X.env.scope.names.lookup x = some .local) (hy : X.env.scope.names.lookup y = some .local) (hz : X.env.scope.names.lookup z = some .local) (ha : PE X a (up X.K ta))
    (hsw : swappedStores [.Tuple [.Name x px, .Name y py, .Name z pz] kt pt] (.Tuple [a, .List [] q2, .List [] q3] k2 pt2) X.env = pure (some [x, y, z]) := by rfl)
    (h1 : swapsWithSole [.Tuple [.Name x px, .Name y py, .Name z pz] kt pt] (.Tuple [a, .List [] q2, .List [] q3] k2 pt2) pos.line X.env = pure false := by rfl)
    (n1 : starEach [a, .List [] q2, .List [] q3] X.env = (false, eval a X.env) :: starEach [.List [] q2, .List [] q3] X.env := by rfl) (n2 : starEach [.List [] q2, .List [] q3] X.env = (false, eval (.List [] q2) X.env) :: starEach [.List [] q3] X.env := by rfl) (n3 : starEach [.List [] q3] X.env = (false, eval (.List [] q3) X.env) :: starEach [] X.env := by rfl) :
    PS X (.Assign [.Tuple [.Name x px, .Name y py, .Name z pz] kt pt] (.Tuple [a, .List [] q2, .List [] q3] k2 pt2) pos) (upS X.K (dPar3E i j l ta)) := ps_to (ps_par3 hc hN hi hj hl hij hil hjl hx hy hz (pa_cons ha (pa_cons (pe_lst pa_nil) (pa_cons (pe_lst pa_nil) pa_nil n3) n2) n1) hsw h1) fun D σ H q => by
  obtain ⟨c, g, tv, tr, F, a, d, s, hn, t, k⟩ := q
  refine ⟨c, g, tv, tr, F, a, _, s, t, fun r g1 u H1 F1 a1 t1 s1 => ?_⟩
  refine ⟨Nat.zero_le _, fun p1 hp1 => ⟨Nat.zero_le _, fun p2 hp2 => ?_⟩⟩
  refine ⟨u, .ref p1, .ref p2, rfl, ?_⟩
  obtain ⟨s2, n2⟩ := s1.laid (ds := []) hp1 .nil
  obtain ⟨s3, n3⟩ := (s2.setOwn n2 j).laid (ds := []) hp2 .nil
  rw [List.set_comm _ _ hij, List.set_comm _ _ hil]
  exact k.nx _ _ _ _ a1 t1 ((s3.setOwn n3 l).set i)
end
end Z

namespace Z
open L2 PySem PySem.Spec PyProof.Rows
open Evl (Ex ex_l ex_t ex_rd fresh_back)
/-! ### a tuple times an int -/
def fMulT : BinF := fun d e post => match d, e with
  | .tuple ds, .int i => 2 ≤ i ∧ i ≤ 1000 ∧ ds ≠ [] ∧ ds.length ≤ 1000 ∧ post (.tuple (repD ds i.toNat))
  | _, _ => False
section
variable {X : Cx} {a b : Expr} {ta tb : DE} {pos : Pos}
theorem ok_mulT {K : Fg} : BinOk K (rRepT K) fMulT := fun F H x y d e post Q hx r1 r2 hf k => by
  cases d with
  | tuple ds =>
    cases e with
    | int i =>
      obtain ⟨h0, h1, h2, h3, h4⟩ := hf
      cases r1 with
      | tup sq m =>
        rename_i aa xs
        cases r2
        refine ⟨_, i, xs, rfl, rfl, ex_t hx sq, fun z => ?_, h0, h1, by rw [m.len]; exact h3, fun p hp => ?_⟩
        · subst z
          have := m.len
          rw [List.length_nil] at this
          exact h2 (List.eq_nil_of_length_eq_zero this.symm)
        · have gr := Gr.new (o := .tup ((List.replicate i.toNat xs).flatten)) hx hp
          exact k _ _ _ _ h4 gr (.tup (.inl (.inl upd_same)) ((rps_rep m _).up gr.f))
    | _ => exact hf.elim
  | _ => exact hf.elim
theorem e_mulT (ha : PE X a (up X.K ta)) (hb : PE X b (up X.K tb)) : PE X (.BinOp a .Mult b pos) (up X.K (dBin fMulT ta tb)) := e_bin op_repT ok_mulT ha hb
end
end Z

namespace Z
open L2 PySem PySem.Spec PyProof.Rows
open Evl (Ex ex_l ex_t ex_rd fresh_back)
/-! ### str(int) -/
def cStrI : CF := fun rs post => match rs with
  | [.val (.int i)] => i.natAbs.log2 < 1920 ∧ post (.str (toString i))
  | _ => False
theorem ok_strI {K : Fg} : CallOk K (fun xs H Q => ∃ i, xs = [V.int i] ∧ i.natAbs.log2 < 1920 ∧ Q (.str (toString i)) H) cStrI := fun F H a fu vs rs post Q e t hf k => by
  unfold cStrI at hf
  split at hf
  · exact ⟨_, t.i1, hf.1, k _ _ H F hf.2 (Gr.refl e) (.str _)⟩
  · exact hf.elim
section
variable {X : Cx} {p pos : Pos} {e : Expr} {tr : DA}
theorem e_strI (hg : Gl X "str") (hm : X.mg "str" = none) (ha : PA X [e] (upA X.K tr)) (he : starEach [e] X.env = (false, eval e X.env) :: starEach [] X.env := by rfl) : PE X (.Call (.Name "str" p) [e] [] pos) (up X.K (dCB cStrI tr)) :=
  e_callTy call_str_int ok_strI hg hm (by decide +kernel) ha (by decide) (by decide) he rfl
end
end Z

namespace LAW
open Z L2 PySem PySem.Spec PyProof.Rows
open Evl (Ex ex_l ex_t ex_rd fresh_back)
def topS (i : Nat) : Stmt := PySem.Challenge.pw_stagedrounding_k01_numbers_of_any_value.main.body.getD i (.Pass ⟨0, 0, 0, 0⟩)
/-! def is_int -/
abbrev st_is_int : Stmt := topS 2
abbrev N_is_int : List Str := ["value", "least"]
theorem sc_is_int : FnScope N_is_int ["value", "least"] (defScope st_is_int) := ⟨rfl, rfl, rfl, by decide +kernel, rfl, by decide +kernel, by decide +kernel⟩
/-! def common_divisor -/
abbrev st_common_divisor : Stmt := topS 3
abbrev N_common_divisor : List Str := ["one", "other"]
theorem sc_common_divisor : FnScope N_common_divisor ["one", "other"] (defScope st_common_divisor) := ⟨rfl, rfl, rfl, by decide +kernel, rfl, by decide +kernel, by decide +kernel⟩
/-! def is_number -/
abbrev st_is_number : Stmt := topS 4
abbrev N_is_number : List Str := ["value", "part"]
theorem sc_is_number : FnScope N_is_number ["value"] (defScope st_is_number) := ⟨rfl, rfl, rfl, by decide +kernel, rfl, by decide +kernel, by decide +kernel⟩
/-! def _law_source -/
abbrev st__law_source : Stmt := topS 6
abbrev N__law_source : List Str := ["_law_script", "_law_k", "_law_given", "_law_digits"]
theorem sc__law_source : FnScope N__law_source ["_law_script", "_law_k"] (defScope st__law_source) := ⟨rfl, rfl, rfl, by decide +kernel, rfl, by decide +kernel, by decide +kernel⟩
/-! def _law_draw -/
abbrev st__law_draw : Stmt := topS 7
abbrev N__law_draw : List Str := ["_law_source_here", "_law_size", "_law_digit", "_law_turn", "_law_mixed"]
theorem sc__law_draw : FnScope N__law_draw ["_law_source_here", "_law_size"] (defScope st__law_draw) := ⟨rfl, rfl, rfl, by decide +kernel, rfl, by decide +kernel, by decide +kernel⟩
/-! def _law_pick -/
abbrev st__law_pick : Stmt := topS 8
abbrev N__law_pick : List Str := ["_law_source_here", "_law_some"]
theorem sc__law_pick : FnScope N__law_pick ["_law_source_here", "_law_some"] (defScope st__law_pick) := ⟨rfl, rfl, rfl, by decide +kernel, rfl, by decide +kernel, by decide +kernel⟩
/-! def _law_divisor -/
abbrev st__law_divisor : Stmt := topS 9
abbrev N__law_divisor : List Str := ["_law_one", "_law_other"]
theorem sc__law_divisor : FnScope N__law_divisor ["_law_one", "_law_other"] (defScope st__law_divisor) := ⟨rfl, rfl, rfl, by decide +kernel, rfl, by decide +kernel, by decide +kernel⟩
/-! def _law_low -/
abbrev st__law_low : Stmt := topS 10
abbrev N__law_low : List Str := ["_law_n", "_law_d", "_law_by"]
theorem sc__law_low : FnScope N__law_low ["_law_n", "_law_d"] (defScope st__law_low) := ⟨rfl, rfl, rfl, by decide +kernel, rfl, by decide +kernel, by decide +kernel⟩
/-! def _law_scaled -/
abbrev st__law_scaled : Stmt := topS 11
abbrev N__law_scaled : List Str := ["_law_number_here", "_law_e", "_law_n", "_law_d"]
theorem sc__law_scaled : FnScope N__law_scaled ["_law_number_here", "_law_e"] (defScope st__law_scaled) := ⟨rfl, rfl, rfl, by decide +kernel, rfl, by decide +kernel, by decide +kernel⟩
/-! def _law_number -/
abbrev st__law_number : Stmt := topS 12
abbrev N__law_number : List Str := ["_law_source_here", "_law_most", "_law_n", "_law_d"]
theorem sc__law_number : FnScope N__law_number ["_law_source_here", "_law_most"] (defScope st__law_number) := ⟨rfl, rfl, rfl, by decide +kernel, rfl, by decide +kernel, by decide +kernel⟩
/-! def _law_is_int -/
abbrev st__law_is_int : Stmt := topS 13
abbrev N__law_is_int : List Str := ["_law_thing", "_law_least"]
theorem sc__law_is_int : FnScope N__law_is_int ["_law_thing", "_law_least"] (defScope st__law_is_int) := ⟨rfl, rfl, rfl, by decide +kernel, rfl, by decide +kernel, by decide +kernel⟩
/-! def _law_is_number -/
abbrev st__law_is_number : Stmt := topS 14
abbrev N__law_is_number : List Str := ["_law_thing", "_law_part"]
theorem sc__law_is_number : FnScope N__law_is_number ["_law_thing"] (defScope st__law_is_number) := ⟨rfl, rfl, rfl, by decide +kernel, rfl, by decide +kernel, by decide +kernel⟩
/-! def _law_odd -/
abbrev st__law_odd : Stmt := topS 15
abbrev N__law_odd : List Str := ["_law_source_here", "_law_some", "_law_given", "_law_turn"]
theorem sc__law_odd : FnScope N__law_odd ["_law_source_here"] (defScope st__law_odd) := ⟨rfl, rfl, rfl, by decide +kernel, rfl, by decide +kernel, by decide +kernel⟩
/-! def _law_right -/
abbrev st__law_right : Stmt := topS 16
abbrev N__law_right : List Str := ["_law_source_here", "_law_values", "_law_turn", "_law_n", "_law_d", "_law_by", "_law_given", "_law_before", "_law_due"]
theorem sc__law_right : FnScope N__law_right ["_law_source_here"] (defScope st__law_right) := ⟨rfl, rfl, rfl, by decide +kernel, rfl, by decide +kernel, by decide +kernel⟩
/-! def law -/
abbrev st_law : Stmt := topS 17
abbrev N_law : List Str := ["_law_script", "_law_k"]
theorem sc_law : FnScope N_law ["_law_script"] (defScope st_law) := ⟨rfl, rfl, rfl, by decide +kernel, rfl, by decide +kernel, by decide +kernel⟩
structure Tx (w : World) (K : Fg) (mg : Str → Option Value) where
  f_is_int : Addr
  fd_is_int : FuncData
  F_is_int : Fun K "is_int" "is_int" st_is_int f_is_int fd_is_int
  b_is_int : Binds K fd_is_int ["value", "least"] []
  g_is_int : mg "is_int" = some (.ref f_is_int)
  f_common_divisor : Addr
  fd_common_divisor : FuncData
  F_common_divisor : Fun K "common_divisor" "common_divisor" st_common_divisor f_common_divisor fd_common_divisor
  b_common_divisor : Binds K fd_common_divisor ["one", "other"] []
  g_common_divisor : mg "common_divisor" = some (.ref f_common_divisor)
  f_is_number : Addr
  fd_is_number : FuncData
  F_is_number : Fun K "is_number" "is_number" st_is_number f_is_number fd_is_number
  b_is_number : Binds K fd_is_number ["value"] []
  g_is_number : mg "is_number" = some (.ref f_is_number)
  f__law_source : Addr
  fd__law_source : FuncData
  F__law_source : Fun K "_law_source" "_law_source" st__law_source f__law_source fd__law_source
  b__law_source : Binds K fd__law_source ["_law_script", "_law_k"] []
  g__law_source : mg "_law_source" = some (.ref f__law_source)
  f__law_draw : Addr
  fd__law_draw : FuncData
  F__law_draw : Fun K "_law_draw" "_law_draw" st__law_draw f__law_draw fd__law_draw
  b__law_draw : Binds K fd__law_draw ["_law_source_here", "_law_size"] []
  g__law_draw : mg "_law_draw" = some (.ref f__law_draw)
  f__law_pick : Addr
  fd__law_pick : FuncData
  F__law_pick : Fun K "_law_pick" "_law_pick" st__law_pick f__law_pick fd__law_pick
  b__law_pick : Binds K fd__law_pick ["_law_source_here", "_law_some"] []
  g__law_pick : mg "_law_pick" = some (.ref f__law_pick)
  f__law_divisor : Addr
  fd__law_divisor : FuncData
  F__law_divisor : Fun K "_law_divisor" "_law_divisor" st__law_divisor f__law_divisor fd__law_divisor
  b__law_divisor : Binds K fd__law_divisor ["_law_one", "_law_other"] []
  g__law_divisor : mg "_law_divisor" = some (.ref f__law_divisor)
  f__law_low : Addr
  fd__law_low : FuncData
  F__law_low : Fun K "_law_low" "_law_low" st__law_low f__law_low fd__law_low
  b__law_low : Binds K fd__law_low ["_law_n", "_law_d"] []
  g__law_low : mg "_law_low" = some (.ref f__law_low)
  f__law_scaled : Addr
  fd__law_scaled : FuncData
  F__law_scaled : Fun K "_law_scaled" "_law_scaled" st__law_scaled f__law_scaled fd__law_scaled
  b__law_scaled : Binds K fd__law_scaled ["_law_number_here", "_law_e"] []
  g__law_scaled : mg "_law_scaled" = some (.ref f__law_scaled)
  f__law_number : Addr
  fd__law_number : FuncData
  F__law_number : Fun K "_law_number" "_law_number" st__law_number f__law_number fd__law_number
  b__law_number : Binds K fd__law_number ["_law_source_here", "_law_most"] []
  g__law_number : mg "_law_number" = some (.ref f__law_number)
  f__law_is_int : Addr
  fd__law_is_int : FuncData
  F__law_is_int : Fun K "_law_is_int" "_law_is_int" st__law_is_int f__law_is_int fd__law_is_int
  b__law_is_int : Binds K fd__law_is_int ["_law_thing", "_law_least"] []
  g__law_is_int : mg "_law_is_int" = some (.ref f__law_is_int)
  f__law_is_number : Addr
  fd__law_is_number : FuncData
  F__law_is_number : Fun K "_law_is_number" "_law_is_number" st__law_is_number f__law_is_number fd__law_is_number
  b__law_is_number : Binds K fd__law_is_number ["_law_thing"] []
  g__law_is_number : mg "_law_is_number" = some (.ref f__law_is_number)
  f__law_odd : Addr
  fd__law_odd : FuncData
  F__law_odd : Fun K "_law_odd" "_law_odd" st__law_odd f__law_odd fd__law_odd
  b__law_odd : Binds K fd__law_odd ["_law_source_here"] []
  g__law_odd : mg "_law_odd" = some (.ref f__law_odd)
  f__law_right : Addr
  fd__law_right : FuncData
  F__law_right : Fun K "_law_right" "_law_right" st__law_right f__law_right fd__law_right
  b__law_right : Binds K fd__law_right ["_law_source_here"] []
  g__law_right : mg "_law_right" = some (.ref f__law_right)
  f_law : Addr
  fd_law : FuncData
  F_law : Fun K "law" "law" st_law f_law fd_law
  b_law : Binds K fd_law ["_law_script"] []
  g_law : mg "law" = some (.ref f_law)
  n_abs : mg "abs" = none
  n_all : mg "all" = none
  n_bool : mg "bool" = none
  n_int : mg "int" = none
  n_isinstance : mg "isinstance" = none
  n_len : mg "len" = none
  n_max : mg "max" = none
  n_min : mg "min" = none
  n_range : mg "range" = none
  n_repr : mg "repr" = none
  n_str : mg "str" = none
  n_tuple : mg "tuple" = none
  u_PAIR : Value
  w_PAIR : V
  c_PAIR : mg "PAIR" = some u_PAIR
  v_PAIR : RelV w_PAIR u_PAIR
  r_PAIR : ∀ F, Rp K F w_PAIR (.int 2)
--@@ is_int
def b_is_int : DS :=
  (dRet (dAndV (dIsi "int" (dVar 0)) (dAndV (dNotV (dIsi "bool" (dVar 0))) (dBin oGe (dVar 0) (dVar 1)))))
/-- value is an int, no bool, at least m -/
def isInt (d : Da) (m : Int) : Bool := match d with
  | .int i => decide (m ≤ i)
  | _ => false
def fs_is_int : FSp := fun rs fu post => ∃ d m, rs = [.val d, .val (.int m)] ∧ post (.val (.bool (isInt d m))) fu
theorem p_is_int (rs : List Rv) (fu : Option Nat) (post : Rr → Option Nat → Prop) (hl : rs.length = 2) (h : fs_is_int rs fu post) : b_is_int ⟨fun g => post (.val .none) g.fu, fun r g => post r g.fu, fun _ => False, fun _ => False⟩ (ent N_is_int rs fu) := by
  obtain ⟨d, m, rfl, h⟩ := h
  cases d <;> (simp only [↓dSeq, ↓dAsg, ↓dSetL, ↓dNext, ↓dIfS, ↓dRet, ↓dRetL, ↓dDrop, ↓dNever, ↓dBrk, ↓dCnt, ↓dAug, ↓dPar, ↓dPar3, ↓dParL, ↓dApp, ↓dExt, ↓dVar, ↓dC, ↓dBin, ↓fI, ↓fI0, ↓fAdd, ↓fEq, ↓fNe, ↓fIn, ↓dTest, ↓dAndT, ↓dOrT, ↓dNotT, ↓dAndV, ↓dOrV, ↓dNotV, ↓dIf, ↓dNeg, ↓dIsN, ↓dChain, ↓dNil, ↓dCons, ↓dTup, ↓dLst, ↓dFz, ↓valsD, ↓dIx, ↓dCall, ↓dCallL, ↓hasSrc, ↓rrv, ↓dN, ↓dT, ↓dTn, ↓dTc, ↓rsv, ↓Gs.set, ↓dFor, ↓dItems, ↓dRange1, ↓dRange2, ↓dZip, ↓dRev, ↓dLc, ↓dCB, ↓cLen, ↓cAll, ↓cTuple, ↓cInt, ↓cInt1, ↓cInt2, ↓dIsi, ↓dBits, ↓dSetS, ↓dCallS, ↓oSub, ↓oAddI, ↓oMul, ↓oDiv, ↓oMod, ↓oShl, ↓oShr, ↓oPow, ↓oAnd, ↓oLt, ↓oLe, ↓oGt, ↓oGe, ↓oAbs, ↓oMax, ↓oMin, ↓dCallK, ↓cRepr, ↓cSum, ↓cMinL, ↓cMaxL, ↓cSorted, ↓cSortedD, ↓cList, ↓dListR, ↓fInD, ↓fMulL, ↓dSl, ↓oNo, ↓oSo, ↓dBy, ↓dD0, ↓dD1, ↓fAddT, ↓dSlT, ↓dParR, ↓dDS, ↓fInDict, ↓dDGet, ↓cLZ, ↓dEnum, ↓dSlS, ↓dListR2, ↓fLtD, ↓dCatL, ↓fMulS, ↓cIntS, ↓cAny, ↓dRange2X, ↓dDI, ↓dGetI, ↓dPar3M, ↓dLenO, ↓dFld, ↓dMeth, ↓dMake, ↓iFld, ↓iSt, ↓iSeq, ↓jSt, ↓jSeq, ↓jFld, ↓jAug, ↓jWhile, ↓dTL, ↓dRangeN, ↓dRevL, ↓dPar3Z, ↓dCount, ↓cLZN, ↓cSortSet, ↓dPar3E, ↓fMulT, ↓cReprX, ↓cStrI, b_is_int, ent, svOf, List.map_cons, List.map_nil, List.cons_append, List.nil_append, List.append_nil, List.replicate, List.length_cons, List.length_nil, List.getElem?_cons_zero, List.getElem?_cons_succ, List.getElem?_nil, List.set_cons_zero, List.set_cons_succ, Option.map_some, Option.map_none, Option.isNone_some, Option.isNone_none, forall_const, true_implies, false_implies, and_true, true_and, Bool.true_eq_false, Bool.false_eq_true, reduceCtorEq, noOwn, wipeS, hide, fuN_self, lcD, dYes, Nat.zero_add, Nat.reduceAdd, Nat.reduceLeDiff, Nat.reduceSub, atI_0, atI_1, atI_2, atI_3, atI_4, atI_5, Int.one_mul, eqv_ii, eqv_ss, eqv_num, shaped_int, shaped_num, shaped_none, shaped_ru, flat_str, flat_int, flat_none, List.all_cons, List.all_nil, Bool.and_true, decide_eq_true_eq, decide_eq_false_iff_not, Bool.not_eq_true', Bool.not_eq_false', Decidable.not_not, ↓reduceIte, Bool.false_eq_true, Int.reduceLT, eqv_strs, pick_0, pick_01, pick_10, pick_012, pick_021, pick_102, pick_120, pick_201, pick_210]; simp_all [isInt, isTy])
theorem isInt_some {d : Da} {m : Int} (h : isInt d m = true) : ∃ i, d = .int i ∧ m ≤ i := by
  cases d with
  | int i => exact ⟨i, rfl, of_decide_eq_true h⟩
  | _ => cases h
section
variable {P : Program} {w : World} {K : Fg} {mg : Str → Option Value} {base : Heap}
theorem d_is_int (T : Tx w K mg) {cdv : Value} {A : Around} {outer : List Env} {s : Shared} {H : Hp} {E : XK} (hr : Room 0 (A.deeper (envOfC "is_int" (defScope st_is_int) s.heap.objs.size T.f_is_int cdv))) (hgd : (A.deeper (envOfC "is_int" (defScope st_is_int) s.heap.objs.size T.f_is_int cdv)).guards = some []) :
    PSs (cxOf CX0 P w K mg base N_is_int "is_int" (defScope st_is_int) T.f_is_int cdv A outer s H E).nox (defBody st_is_int) (upS K b_is_int) :=
  (ss_one (s_ret (e_and (e_isi kit_int (by rfl) T.n_isinstance (e_var 0 (pv 0)) (c_ty (by rfl) T.n_int (by decide +kernel))) (e_and (e_not (e_isi kit_bool (by rfl) T.n_isinstance (e_var 0 (pv 0)) (c_ty (by rfl) T.n_bool (by decide +kernel)))) (e_one (e_ge (e_var 0 (pv 0)) (e_var 1 (pv 1))))))))
theorem ok_is_int (T : Tx w K mg) : Fn P w K mg base CX0 1 T.f_is_int T.fd_is_int ["value", "least"] (lift K 2 fs_is_int) := fn_data T.F_is_int sc_is_int b_is_int (fun _ _ _ _ _ _ hr hgd => d_is_int T hr hgd) p_is_int
end
--@@ common_divisor
def b_common_divisor : DS :=
  (dSeq (dWhile (dTest (dBin fNe (dVar 1) (dC (.int 0))))
    (dPar 0 1 (dVar 1) (dBin oMod (dVar 0) (dVar 1))))
  (dRet (dVar 0)))
def fs_common_divisor : FSp := fun rs fu post => ∃ a b : Int, rs = [.val (.int a), .val (.int b)] ∧ 0 ≤ a ∧ 0 ≤ b ∧ post (.val (.int (Int.gcd a b))) fu
theorem p_common_divisor (rs : List Rv) (fu : Option Nat) (post : Rr → Option Nat → Prop) (hl : rs.length = 2) (h : fs_common_divisor rs fu post) : b_common_divisor ⟨fun g => post (.val .none) g.fu, fun r g => post r g.fu, fun _ => False, fun _ => False⟩ (ent N_common_divisor rs fu) := by
  obtain ⟨a, b, rfl, ha, hb, h⟩ := h
  simp only [↓dSeq, ↓dAsg, ↓dSetL, ↓dNext, ↓dIfS, ↓dRet, ↓dRetL, ↓dDrop, ↓dNever, ↓dBrk, ↓dCnt, ↓dAug, ↓dPar, ↓dPar3, ↓dParL, ↓dApp, ↓dExt, ↓dVar, ↓dC, ↓dBin, ↓fI, ↓fI0, ↓fAdd, ↓fEq, ↓fNe, ↓fIn, ↓dTest, ↓dAndT, ↓dOrT, ↓dNotT, ↓dAndV, ↓dOrV, ↓dNotV, ↓dIf, ↓dNeg, ↓dIsN, ↓dChain, ↓dNil, ↓dCons, ↓dTup, ↓dLst, ↓dFz, ↓valsD, ↓dIx, ↓dCall, ↓dCallL, ↓hasSrc, ↓rrv, ↓dN, ↓dT, ↓dTn, ↓dTc, ↓rsv, ↓Gs.set, ↓dFor, ↓dItems, ↓dRange1, ↓dRange2, ↓dZip, ↓dRev, ↓dLc, ↓dCB, ↓cLen, ↓cAll, ↓cTuple, ↓cInt, ↓cInt1, ↓cInt2, ↓dIsi, ↓dBits, ↓dSetS, ↓dCallS, ↓oSub, ↓oAddI, ↓oMul, ↓oDiv, ↓oMod, ↓oShl, ↓oShr, ↓oPow, ↓oAnd, ↓oLt, ↓oLe, ↓oGt, ↓oGe, ↓oAbs, ↓oMax, ↓oMin, ↓dCallK, ↓cRepr, ↓cSum, ↓cMinL, ↓cMaxL, ↓cSorted, ↓cSortedD, ↓cList, ↓dListR, ↓fInD, ↓fMulL, ↓dSl, ↓oNo, ↓oSo, ↓dBy, ↓dD0, ↓dD1, ↓fAddT, ↓dSlT, ↓dParR, ↓dDS, ↓fInDict, ↓dDGet, ↓cLZ, ↓dEnum, ↓dSlS, ↓dListR2, ↓fLtD, ↓dCatL, ↓fMulS, ↓cIntS, ↓cAny, ↓dRange2X, ↓dDI, ↓dGetI, ↓dPar3M, ↓dLenO, ↓dFld, ↓dMeth, ↓dMake, ↓iFld, ↓iSt, ↓iSeq, ↓jSt, ↓jSeq, ↓jFld, ↓jAug, ↓jWhile, ↓dTL, ↓dRangeN, ↓dRevL, ↓dPar3Z, ↓dCount, ↓cLZN, ↓cSortSet, ↓dPar3E, ↓fMulT, ↓cReprX, ↓cStrI, b_common_divisor, ent, svOf, List.map_cons, List.map_nil, List.cons_append, List.nil_append, List.append_nil, List.replicate, List.length_cons, List.length_nil, List.getElem?_cons_zero, List.getElem?_cons_succ, List.getElem?_nil, List.set_cons_zero, List.set_cons_succ, Option.map_some, Option.map_none, Option.isNone_some, Option.isNone_none, forall_const, true_implies, false_implies, and_true, true_and, Bool.true_eq_false, Bool.false_eq_true, reduceCtorEq, noOwn, wipeS, hide, fuN_self, lcD, dYes, Nat.zero_add, Nat.reduceAdd, Nat.reduceLeDiff, Nat.reduceSub, atI_0, atI_1, atI_2, atI_3, atI_4, atI_5, Int.one_mul, eqv_ii, eqv_ss, eqv_num, shaped_int, shaped_num, shaped_none, shaped_ru, flat_str, flat_int, flat_none, List.all_cons, List.all_nil, Bool.and_true, decide_eq_true_eq, decide_eq_false_iff_not, Bool.not_eq_true', Bool.not_eq_false', Decidable.not_not, ↓reduceIte, Bool.false_eq_true, Int.reduceLT, eqv_strs, pick_0, pick_01, pick_10, pick_012, pick_021, pick_102, pick_120, pick_201, pick_210]
  refine ⟨fun m g => ∃ x y : Int, g = ⟨[some (.val (.int x)), some (.val (.int y))], fu, fu.isNone⟩ ∧ 0 ≤ x ∧ 0 ≤ y ∧ y.toNat = m ∧ Int.gcd x y = Int.gcd a b, ⟨b.toNat, a, b, rfl, ha, hb, rfl, rfl⟩, fun m g hg => ?_⟩
  obtain ⟨x, y, rfl, hx, hy, rfl, e⟩ := hg
  simp only [↓dSeq, ↓dAsg, ↓dSetL, ↓dNext, ↓dIfS, ↓dRet, ↓dRetL, ↓dDrop, ↓dNever, ↓dBrk, ↓dCnt, ↓dAug, ↓dPar, ↓dPar3, ↓dParL, ↓dApp, ↓dExt, ↓dVar, ↓dC, ↓dBin, ↓fI, ↓fI0, ↓fAdd, ↓fEq, ↓fNe, ↓fIn, ↓dTest, ↓dAndT, ↓dOrT, ↓dNotT, ↓dAndV, ↓dOrV, ↓dNotV, ↓dIf, ↓dNeg, ↓dIsN, ↓dChain, ↓dNil, ↓dCons, ↓dTup, ↓dLst, ↓dFz, ↓valsD, ↓dIx, ↓dCall, ↓dCallL, ↓hasSrc, ↓rrv, ↓dN, ↓dT, ↓dTn, ↓dTc, ↓rsv, ↓Gs.set, ↓dFor, ↓dItems, ↓dRange1, ↓dRange2, ↓dZip, ↓dRev, ↓dLc, ↓dCB, ↓cLen, ↓cAll, ↓cTuple, ↓cInt, ↓cInt1, ↓cInt2, ↓dIsi, ↓dBits, ↓dSetS, ↓dCallS, ↓oSub, ↓oAddI, ↓oMul, ↓oDiv, ↓oMod, ↓oShl, ↓oShr, ↓oPow, ↓oAnd, ↓oLt, ↓oLe, ↓oGt, ↓oGe, ↓oAbs, ↓oMax, ↓oMin, ↓dCallK, ↓cRepr, ↓cSum, ↓cMinL, ↓cMaxL, ↓cSorted, ↓cSortedD, ↓cList, ↓dListR, ↓fInD, ↓fMulL, ↓dSl, ↓oNo, ↓oSo, ↓dBy, ↓dD0, ↓dD1, ↓fAddT, ↓dSlT, ↓dParR, ↓dDS, ↓fInDict, ↓dDGet, ↓cLZ, ↓dEnum, ↓dSlS, ↓dListR2, ↓fLtD, ↓dCatL, ↓fMulS, ↓cIntS, ↓cAny, ↓dRange2X, ↓dDI, ↓dGetI, ↓dPar3M, ↓dLenO, ↓dFld, ↓dMeth, ↓dMake, ↓iFld, ↓iSt, ↓iSeq, ↓jSt, ↓jSeq, ↓jFld, ↓jAug, ↓jWhile, ↓dTL, ↓dRangeN, ↓dRevL, ↓dPar3Z, ↓dCount, ↓cLZN, ↓cSortSet, ↓dPar3E, ↓fMulT, ↓cReprX, ↓cStrI, ent, svOf, List.map_cons, List.map_nil, List.cons_append, List.nil_append, List.append_nil, List.replicate, List.length_cons, List.length_nil, List.getElem?_cons_zero, List.getElem?_cons_succ, List.getElem?_nil, List.set_cons_zero, List.set_cons_succ, Option.map_some, Option.map_none, Option.isNone_some, Option.isNone_none, forall_const, true_implies, false_implies, and_true, true_and, Bool.true_eq_false, Bool.false_eq_true, reduceCtorEq, noOwn, wipeS, hide, fuN_self, lcD, dYes, Nat.zero_add, Nat.reduceAdd, Nat.reduceLeDiff, Nat.reduceSub, atI_0, atI_1, atI_2, atI_3, atI_4, atI_5, Int.one_mul, eqv_ii, eqv_ss, eqv_num, shaped_int, shaped_num, shaped_none, shaped_ru, flat_str, flat_int, flat_none, List.all_cons, List.all_nil, Bool.and_true, decide_eq_true_eq, decide_eq_false_iff_not, Bool.not_eq_true', Bool.not_eq_false', Decidable.not_not, ↓reduceIte, Bool.false_eq_true, Int.reduceLT, eqv_strs, pick_0, pick_01, pick_10, pick_012, pick_021, pick_102, pick_120, pick_201, pick_210]
  refine ⟨fun hne => ?_, fun heq => ?_⟩
  · have hy0 : 0 < y := by omega
    refine ⟨hy0, (x % y).toNat, ?_, y, x % y, rfl, hy, Int.emod_nonneg _ (by omega), rfl, by rw [gcd_step hx hy0, e]⟩
    have := Int.emod_lt_of_pos x hy0
    have := Int.emod_nonneg x (show y ≠ 0 by omega)
    omega
  · subst heq
    rw [Int.gcd_zero_right] at e
    have : x = ((Int.gcd a b : Nat) : Int) := by omega
    rw [this]
    exact h
section
variable {P : Program} {w : World} {K : Fg} {mg : Str → Option Value} {base : Heap}
theorem d_common_divisor (T : Tx w K mg) {cdv : Value} {A : Around} {outer : List Env} {s : Shared} {H : Hp} {E : XK} (hr : Room 0 (A.deeper (envOfC "common_divisor" (defScope st_common_divisor) s.heap.objs.size T.f_common_divisor cdv))) (hgd : (A.deeper (envOfC "common_divisor" (defScope st_common_divisor) s.heap.objs.size T.f_common_divisor cdv)).guards = some []) :
    PSs (cxOf CX0 P w K mg base N_common_divisor "common_divisor" (defScope st_common_divisor) T.f_common_divisor cdv A outer s H E).nox (defBody st_common_divisor) (upS K b_common_divisor) :=
  (ss_cons (s_while PassesOwn.never (t_ne hr.units (e_var 1 (pv 1)) e_int) (ss_one (s_par (i := 0) (j := 1) rfl sc_common_divisor.nd rfl rfl (by decide) rfl rfl (e_var 1 (pv 1)) (e_mod (e_var 0 (pv 0)) (e_var 1 (pv 1))))))
    (ss_one (s_ret (e_var 0 (pv 0)))))
theorem ok_common_divisor (T : Tx w K mg) : Fn P w K mg base CX0 1 T.f_common_divisor T.fd_common_divisor ["one", "other"] (lift K 2 fs_common_divisor) := fn_data T.F_common_divisor sc_common_divisor b_common_divisor (fun _ _ _ _ _ _ hr hgd => d_common_divisor T hr hgd) p_common_divisor
end
--@@ is_number
def b_is_number : DS :=
  (dSeq (dIfS (dOrT (dNotT (dTest (dIsi "tuple" (dVar 0)))) (dOrT (dTest (dBin fNe (dCB cLen (dCons (dVar 0) dNil)) (dC (.int 2)))) (dNotT (dTest (dCB cAll (dCons (dFz (dLc [1] (dItems (dVar 0)) (dN 1) dYes (dCall 2 fs_is_int (dCons (dVar 1) (dCons (dC (.int 1)) dNil))))) dNil))))))
    (dRet (dC (.bool false)))
    dNext)
  (dRet (dBin fEq (dCall 2 fs_common_divisor (dCons (dIx (dVar 0) (dC (.int 0))) (dCons (dIx (dVar 0) (dC (.int 1))) dNil))) (dC (.int 1)))))
/-- a number: two ints from 1 on without a common divisor -/
def isNum : Da → Bool
  | .tuple [x, y] => isInt x 1 && isInt y 1 && (match x, y with | .int n, .int d => decide (Int.gcd n d = 1) | _, _ => false)
  | _ => false
theorem isNum_ne {xs : List Da} (h : xs.length ≠ 2) : isNum (.tuple xs) = false := by
  match xs with
  | [] => rfl
  | [_] => rfl
  | [_, _] => exact absurd rfl h
  | _ :: _ :: _ :: _ => rfl
theorem isNum_some {v : Da} (h : isNum v = true) : ∃ n d : Int, v = num n d ∧ 1 ≤ n ∧ 1 ≤ d ∧ Int.gcd n d = 1 := by
  cases v with
  | tuple xs =>
    match xs, h with
    | [x, y], h =>
      simp only [isNum, Bool.and_eq_true] at h
      obtain ⟨n, rfl, hn⟩ := isInt_some h.1.1
      obtain ⟨d, rfl, hd⟩ := isInt_some h.1.2
      exact ⟨n, d, rfl, hn, hd, of_decide_eq_true h.2⟩
  | _ => cases h
theorem isNum_num {n d : Int} (hn : 1 ≤ n) (hd : 1 ≤ d) (h : Int.gcd n d = 1) : isNum (num n d) = true := by
  simp [isNum, isInt, hn, hd, h]
def fs_is_number : FSp := fun rs fu post => ∃ v, rs = [.val v] ∧ post (.val (.bool (isNum v))) fu
theorem p_is_number (rs : List Rv) (fu : Option Nat) (post : Rr → Option Nat → Prop) (hl : rs.length = 1) (h : fs_is_number rs fu post) : b_is_number ⟨fun g => post (.val .none) g.fu, fun r g => post r g.fu, fun _ => False, fun _ => False⟩ (ent N_is_number rs fu) := by
  obtain ⟨v, rfl, h⟩ := h
  cases v with
  | tuple xs =>
    simp only [↓dSeq, ↓dAsg, ↓dSetL, ↓dNext, ↓dIfS, ↓dRet, ↓dRetL, ↓dDrop, ↓dNever, ↓dBrk, ↓dCnt, ↓dAug, ↓dPar, ↓dPar3, ↓dParL, ↓dApp, ↓dExt, ↓dVar, ↓dC, ↓dBin, ↓fI, ↓fI0, ↓fAdd, ↓fEq, ↓fNe, ↓fIn, ↓dTest, ↓dAndT, ↓dOrT, ↓dNotT, ↓dAndV, ↓dOrV, ↓dNotV, ↓dIf, ↓dNeg, ↓dIsN, ↓dChain, ↓dNil, ↓dCons, ↓dTup, ↓dLst, ↓dFz, ↓valsD, ↓dIx, ↓dCall, ↓dCallL, ↓hasSrc, ↓rrv, ↓dN, ↓dT, ↓dTn, ↓dTc, ↓rsv, ↓Gs.set, ↓dFor, ↓dItems, ↓dRange1, ↓dRange2, ↓dZip, ↓dRev, ↓dLc, ↓dCB, ↓cLen, ↓cAll, ↓cTuple, ↓cInt, ↓cInt1, ↓cInt2, ↓dIsi, ↓dBits, ↓dSetS, ↓dCallS, ↓oSub, ↓oAddI, ↓oMul, ↓oDiv, ↓oMod, ↓oShl, ↓oShr, ↓oPow, ↓oAnd, ↓oLt, ↓oLe, ↓oGt, ↓oGe, ↓oAbs, ↓oMax, ↓oMin, ↓dCallK, ↓cRepr, ↓cSum, ↓cMinL, ↓cMaxL, ↓cSorted, ↓cSortedD, ↓cList, ↓dListR, ↓fInD, ↓fMulL, ↓dSl, ↓oNo, ↓oSo, ↓dBy, ↓dD0, ↓dD1, ↓fAddT, ↓dSlT, ↓dParR, ↓dDS, ↓fInDict, ↓dDGet, ↓cLZ, ↓dEnum, ↓dSlS, ↓dListR2, ↓fLtD, ↓dCatL, ↓fMulS, ↓cIntS, ↓cAny, ↓dRange2X, ↓dDI, ↓dGetI, ↓dPar3M, ↓dLenO, ↓dFld, ↓dMeth, ↓dMake, ↓iFld, ↓iSt, ↓iSeq, ↓jSt, ↓jSeq, ↓jFld, ↓jAug, ↓jWhile, ↓dTL, ↓dRangeN, ↓dRevL, ↓dPar3Z, ↓dCount, ↓cLZN, ↓cSortSet, ↓dPar3E, ↓fMulT, ↓cReprX, ↓cStrI, b_is_number, ent, svOf, List.map_cons, List.map_nil, List.cons_append, List.nil_append, List.append_nil, List.replicate, List.length_cons, List.length_nil, List.getElem?_cons_zero, List.getElem?_cons_succ, List.getElem?_nil, List.set_cons_zero, List.set_cons_succ, Option.map_some, Option.map_none, Option.isNone_some, Option.isNone_none, forall_const, true_implies, false_implies, and_true, true_and, Bool.true_eq_false, Bool.false_eq_true, reduceCtorEq, noOwn, wipeS, hide, fuN_self, lcD, dYes, Nat.zero_add, Nat.reduceAdd, Nat.reduceLeDiff, Nat.reduceSub, atI_0, atI_1, atI_2, atI_3, atI_4, atI_5, Int.one_mul, eqv_ii, eqv_ss, eqv_num, shaped_int, shaped_num, shaped_none, shaped_ru, flat_str, flat_int, flat_none, List.all_cons, List.all_nil, Bool.and_true, decide_eq_true_eq, decide_eq_false_iff_not, Bool.not_eq_true', Bool.not_eq_false', Decidable.not_not, ↓reduceIte, Bool.false_eq_true, Int.reduceLT, eqv_strs, pick_0, pick_01, pick_10, pick_012, pick_021, pick_102, pick_120, pick_201, pick_210]
    refine ⟨fun z => (by simp [isTy] at z), fun _ => ⟨fun z => ?_, fun z => ?_⟩⟩
    · have e : xs.length ≠ 2 := by omega
      rw [isNum_ne e] at h
      exact h
    · have e : xs.length = 2 := by omega
      match xs, e with
      | [x, y], _ =>
        simp only [↓dSeq, ↓dAsg, ↓dSetL, ↓dNext, ↓dIfS, ↓dRet, ↓dRetL, ↓dDrop, ↓dNever, ↓dBrk, ↓dCnt, ↓dAug, ↓dPar, ↓dPar3, ↓dParL, ↓dApp, ↓dExt, ↓dVar, ↓dC, ↓dBin, ↓fI, ↓fI0, ↓fAdd, ↓fEq, ↓fNe, ↓fIn, ↓dTest, ↓dAndT, ↓dOrT, ↓dNotT, ↓dAndV, ↓dOrV, ↓dNotV, ↓dIf, ↓dNeg, ↓dIsN, ↓dChain, ↓dNil, ↓dCons, ↓dTup, ↓dLst, ↓dFz, ↓valsD, ↓dIx, ↓dCall, ↓dCallL, ↓hasSrc, ↓rrv, ↓dN, ↓dT, ↓dTn, ↓dTc, ↓rsv, ↓Gs.set, ↓dFor, ↓dItems, ↓dRange1, ↓dRange2, ↓dZip, ↓dRev, ↓dLc, ↓dCB, ↓cLen, ↓cAll, ↓cTuple, ↓cInt, ↓cInt1, ↓cInt2, ↓dIsi, ↓dBits, ↓dSetS, ↓dCallS, ↓oSub, ↓oAddI, ↓oMul, ↓oDiv, ↓oMod, ↓oShl, ↓oShr, ↓oPow, ↓oAnd, ↓oLt, ↓oLe, ↓oGt, ↓oGe, ↓oAbs, ↓oMax, ↓oMin, ↓dCallK, ↓cRepr, ↓cSum, ↓cMinL, ↓cMaxL, ↓cSorted, ↓cSortedD, ↓cList, ↓dListR, ↓fInD, ↓fMulL, ↓dSl, ↓oNo, ↓oSo, ↓dBy, ↓dD0, ↓dD1, ↓fAddT, ↓dSlT, ↓dParR, ↓dDS, ↓fInDict, ↓dDGet, ↓cLZ, ↓dEnum, ↓dSlS, ↓dListR2, ↓fLtD, ↓dCatL, ↓fMulS, ↓cIntS, ↓cAny, ↓dRange2X, ↓dDI, ↓dGetI, ↓dPar3M, ↓dLenO, ↓dFld, ↓dMeth, ↓dMake, ↓iFld, ↓iSt, ↓iSeq, ↓jSt, ↓jSeq, ↓jFld, ↓jAug, ↓jWhile, ↓dTL, ↓dRangeN, ↓dRevL, ↓dPar3Z, ↓dCount, ↓cLZN, ↓cSortSet, ↓dPar3E, ↓fMulT, ↓cReprX, ↓cStrI, fs_is_int, ent, svOf, List.map_cons, List.map_nil, List.cons_append, List.nil_append, List.append_nil, List.replicate, List.length_cons, List.length_nil, List.getElem?_cons_zero, List.getElem?_cons_succ, List.getElem?_nil, List.set_cons_zero, List.set_cons_succ, Option.map_some, Option.map_none, Option.isNone_some, Option.isNone_none, forall_const, true_implies, false_implies, and_true, true_and, Bool.true_eq_false, Bool.false_eq_true, reduceCtorEq, noOwn, wipeS, hide, fuN_self, lcD, dYes, Nat.zero_add, Nat.reduceAdd, Nat.reduceLeDiff, Nat.reduceSub, atI_0, atI_1, atI_2, atI_3, atI_4, atI_5, Int.one_mul, eqv_ii, eqv_ss, eqv_num, shaped_int, shaped_num, shaped_none, shaped_ru, flat_str, flat_int, flat_none, List.all_cons, List.all_nil, Bool.and_true, decide_eq_true_eq, decide_eq_false_iff_not, Bool.not_eq_true', Bool.not_eq_false', Decidable.not_not, ↓reduceIte, Bool.false_eq_true, Int.reduceLT, eqv_strs, pick_0, pick_01, pick_10, pick_012, pick_021, pick_102, pick_120, pick_201, pick_210]
        refine ⟨x, 1, rfl, by decide, y, 1, rfl, by decide, ?_⟩
        simp only [boolsD, Option.map_some]
        simp only [isNum] at h
        refine ⟨fun hf => ?_, fun ht => ?_⟩
        · have : (isInt x 1 && isInt y 1) = false := by
            revert hf
            cases isInt x 1 <;> cases isInt y 1 <;> simp
          rw [this, Bool.false_and] at h
          exact h
        · have h12 : isInt x 1 = true ∧ isInt y 1 = true := by simpa using ht
          obtain ⟨n, rfl, hn⟩ := isInt_some h12.1
          obtain ⟨d, rfl, hd⟩ := isInt_some h12.2
          refine ⟨n, d, rfl, by omega, by omega, rfl, rfl, ?_⟩
          have e : ((PyData.int ((Int.gcd n d : Nat) : Int)).eqv (PyData.int 1)) = decide (Int.gcd n d = 1) := by
            simp only [PyData.eqv]
            rw [Bool.eq_iff_iff]
            simp
            omega
          rw [e]
          rw [h12.1, h12.2] at h
          simpa using h
  | _ => simp only [↓dSeq, ↓dAsg, ↓dSetL, ↓dNext, ↓dIfS, ↓dRet, ↓dRetL, ↓dDrop, ↓dNever, ↓dBrk, ↓dCnt, ↓dAug, ↓dPar, ↓dPar3, ↓dParL, ↓dApp, ↓dExt, ↓dVar, ↓dC, ↓dBin, ↓fI, ↓fI0, ↓fAdd, ↓fEq, ↓fNe, ↓fIn, ↓dTest, ↓dAndT, ↓dOrT, ↓dNotT, ↓dAndV, ↓dOrV, ↓dNotV, ↓dIf, ↓dNeg, ↓dIsN, ↓dChain, ↓dNil, ↓dCons, ↓dTup, ↓dLst, ↓dFz, ↓valsD, ↓dIx, ↓dCall, ↓dCallL, ↓hasSrc, ↓rrv, ↓dN, ↓dT, ↓dTn, ↓dTc, ↓rsv, ↓Gs.set, ↓dFor, ↓dItems, ↓dRange1, ↓dRange2, ↓dZip, ↓dRev, ↓dLc, ↓dCB, ↓cLen, ↓cAll, ↓cTuple, ↓cInt, ↓cInt1, ↓cInt2, ↓dIsi, ↓dBits, ↓dSetS, ↓dCallS, ↓oSub, ↓oAddI, ↓oMul, ↓oDiv, ↓oMod, ↓oShl, ↓oShr, ↓oPow, ↓oAnd, ↓oLt, ↓oLe, ↓oGt, ↓oGe, ↓oAbs, ↓oMax, ↓oMin, ↓dCallK, ↓cRepr, ↓cSum, ↓cMinL, ↓cMaxL, ↓cSorted, ↓cSortedD, ↓cList, ↓dListR, ↓fInD, ↓fMulL, ↓dSl, ↓oNo, ↓oSo, ↓dBy, ↓dD0, ↓dD1, ↓fAddT, ↓dSlT, ↓dParR, ↓dDS, ↓fInDict, ↓dDGet, ↓cLZ, ↓dEnum, ↓dSlS, ↓dListR2, ↓fLtD, ↓dCatL, ↓fMulS, ↓cIntS, ↓cAny, ↓dRange2X, ↓dDI, ↓dGetI, ↓dPar3M, ↓dLenO, ↓dFld, ↓dMeth, ↓dMake, ↓iFld, ↓iSt, ↓iSeq, ↓jSt, ↓jSeq, ↓jFld, ↓jAug, ↓jWhile, ↓dTL, ↓dRangeN, ↓dRevL, ↓dPar3Z, ↓dCount, ↓cLZN, ↓cSortSet, ↓dPar3E, ↓fMulT, ↓cReprX, ↓cStrI, b_is_number, ent, svOf, List.map_cons, List.map_nil, List.cons_append, List.nil_append, List.append_nil, List.replicate, List.length_cons, List.length_nil, List.getElem?_cons_zero, List.getElem?_cons_succ, List.getElem?_nil, List.set_cons_zero, List.set_cons_succ, Option.map_some, Option.map_none, Option.isNone_some, Option.isNone_none, forall_const, true_implies, false_implies, and_true, true_and, Bool.true_eq_false, Bool.false_eq_true, reduceCtorEq, noOwn, wipeS, hide, fuN_self, lcD, dYes, Nat.zero_add, Nat.reduceAdd, Nat.reduceLeDiff, Nat.reduceSub, atI_0, atI_1, atI_2, atI_3, atI_4, atI_5, Int.one_mul, eqv_ii, eqv_ss, eqv_num, shaped_int, shaped_num, shaped_none, shaped_ru, flat_str, flat_int, flat_none, List.all_cons, List.all_nil, Bool.and_true, decide_eq_true_eq, decide_eq_false_iff_not, Bool.not_eq_true', Bool.not_eq_false', Decidable.not_not, ↓reduceIte, Bool.false_eq_true, Int.reduceLT, eqv_strs, pick_0, pick_01, pick_10, pick_012, pick_021, pick_102, pick_120, pick_201, pick_210]; simpa [isTy, isNum] using h
section
variable {P : Program} {w : World} {K : Fg} {mg : Str → Option Value} {base : Heap}
theorem d_is_number (T : Tx w K mg) {cdv : Value} {A : Around} {outer : List Env} {s : Shared} {H : Hp} {E : XK} (hr : Room 1 (A.deeper (envOfC "is_number" (defScope st_is_number) s.heap.objs.size T.f_is_number cdv))) (hgd : (A.deeper (envOfC "is_number" (defScope st_is_number) s.heap.objs.size T.f_is_number cdv)).guards = some []) :
    PSs (cxOf CX0 P w K mg base N_is_number "is_number" (defScope st_is_number) T.f_is_number cdv A outer s H E).nox (defBody st_is_number) (upS K b_is_number) :=
  (ss_cons (s_if (PW.pt (w_or (t_not (t_val (e_isi kit_tuple (by rfl) T.n_isinstance (e_var 0 (pv 0)) (c_ty (by rfl) T.n_tuple (by decide +kernel))))) (w_or (t_ne hr.units (e_len (by rfl) T.n_len (a_cons (e_var 0 (pv 0)) a_nil)) (e_glob (by rfl) T.c_PAIR T.v_PAIR T.r_PAIR)) (w_or1 (t_not (t_val (e_all rfl (by rfl) T.n_all (a_cons (e_fz (e_lc (own := [("part", 1)]) rfl sc_is_number.nd (i_items (e_var 0 (pv 0))) (blkOk_by (own := [("part", 1)]) (N := N_is_number) (sc := defScope st_is_number) (by decide +kernel)) (fun _ _ _ _ _ => (gw_name rfl (pg_name (i := 1) sc_is_number.nd rfl (.inl rfl)) (by decide))) (fun _ _ _ _ _ => ts_yes) (fun _ _ _ _ _ => (e_call (ok_is_int T) (hr.mono (by decide)) hgd (by rfl) T.g_is_int T.F_is_int.kp T.b_is_int pass0 (a_cons (e_var 1 (pv 1)) (a_cons e_int a_nil)))))) a_nil)))))))) (ss_one (s_ret e_bl)) ss_nil)
    (ss_one (s_ret (e_eq hr.units (e_call (ok_common_divisor T) (hr.mono (by decide)) hgd (by rfl) T.g_common_divisor T.F_common_divisor.kp T.b_common_divisor pass0 (a_cons (e_ix (e_var 0 (pv 0)) e_int) (a_cons (e_ix (e_var 0 (pv 0)) e_int) a_nil))) e_int))))
theorem ok_is_number (T : Tx w K mg) : Fn P w K mg base CX0 2 T.f_is_number T.fd_is_number ["value"] (lift K 1 fs_is_number) := fn_data T.F_is_number sc_is_number b_is_number (fun _ _ _ _ _ _ hr hgd => d_is_number T hr hgd) p_is_number
end
--@@ _law_source
def b__law_source : DS :=
  (dSeq (dAsg (dIf (dTest (dBin oLt (dVar 1) (dCB cLen (dCons (dVar 0) dNil)))) (dIx (dVar 0) (dVar 1)) (dC (.int 0))) (dN 2))
  (dSeq (dAsg (dIf (dTest (dBin oGe (dCB oAbs (dCons (dVar 2) dNil)) (dBin oPow (dC (.int 10)) (dC (.int 18))))) (dBin oMod (dCB oAbs (dCons (dVar 2) dNil)) (dBin oPow (dBin oPow (dC (.int 10)) (dC (.int 60))) (dC (.int 4)))) (dC (.int 0))) (dN 3))
  (dRetL (dLst (dCons (dVar 3) (dCons (dBin oMod (dBin fAdd (dBin fAdd (dBin oMul (dBin oMod (dVar 2) (dC (.int 2305843009213693951))) (dC (.int 1000003))) (dBin oMul (dBin oMul (dC (.int 7919)) (dVar 1)) (dVar 1))) (dC (.int 97))) (dC (.int 2305843009213693921))) (dCons (dC (.int 0)) dNil)))))))
def fs__law_source : FSp := fun rs fu post => ∃ (ns : List Int) (k : Int), rs = [.scr ns, .val (.int k)] ∧ 0 ≤ k ∧ k < 1000000 ∧ ∀ x y : Int, 0 ≤ x → x < 2 ^ 1000 → 0 ≤ y → y < modS → post (.own [.int x, .int y, .int 0]) fu
theorem atI_nn {ns : List Int} {k : Int} (h0 : 0 ≤ k) (h : k < ns.length) : ∃ z, atI ns k = some z := by
  unfold atI ixN
  rw [if_pos h0, if_pos h]
  exact ⟨_, List.getElem?_eq_getElem (show k.toNat < ns.length by omega)⟩
theorem pw1 : CPowX 10 18 := ⟨by decide, by decide +kernel⟩
theorem pw2 : CPowX 10 60 := ⟨by decide, by decide +kernel⟩
theorem pw3 : CPowX (10 ^ Int.toNat 60) 4 := ⟨by decide, by decide +kernel⟩
theorem pw4 : (0 : Int) < (10 ^ Int.toNat 60) ^ Int.toNat 4 := by decide +kernel
theorem pw5 : ((10 : Int) ^ Int.toNat 60) ^ Int.toNat 4 ≤ 2 ^ 1000 := by decide +kernel
theorem src_fin {fu : Option Nat} {post : Rr → Option Nat → Prop} {z k : Int} (h1 : 0 ≤ k) (h2 : k < 1000000) (h : ∀ x y : Int, 0 ≤ x → x < 2 ^ 1000 → 0 ≤ y → y < modS → post (.own [.int x, .int y, .int 0]) fu) :
    CMulX (z % 2305843009213693951) 1000003 ∧ CMulX 7919 k ∧ CMulX (7919 * k) k ∧ ∀ x : Int, 0 ≤ x → x < 2 ^ 1000 → post (.own [.int x, .int ((z % 2305843009213693951 * 1000003 + 7919 * k * k + 97) % 2305843009213693921), .int 0]) fu := by
  have a1 := Int.emod_nonneg z (show (2305843009213693951 : Int) ≠ 0 by decide)
  have a2 := Int.emod_lt_of_pos z (show (0 : Int) < 2305843009213693951 by decide)
  refine ⟨mulX 64 64 (Bn.small (by omega) (by omega) (by decide)) (Bn.small (by decide) (by decide) (by decide)) (by decide), mulX 64 64 (Bn.small (by decide) (by decide) (by decide)) (Bn.small (by omega) (by omega) (by decide)) (by decide),
    mulX 64 64 (Bn.small (by omega) (by omega) (by decide)) (Bn.small (by omega) (by omega) (by decide)) (by decide), fun x x0 x1 => h x _ x0 x1 (Int.emod_nonneg _ (by decide)) (Int.emod_lt_of_pos _ (by decide))⟩
/-- the body behind its first statement -/
def srcT : DS := (dSeq (dAsg (dIf (dTest (dBin oGe (dCB oAbs (dCons (dVar 2) dNil)) (dBin oPow (dC (.int 10)) (dC (.int 18))))) (dBin oMod (dCB oAbs (dCons (dVar 2) dNil)) (dBin oPow (dBin oPow (dC (.int 10)) (dC (.int 60))) (dC (.int 4)))) (dC (.int 0))) (dN 3))
  (dRetL (dLst (dCons (dVar 3) (dCons (dBin oMod (dBin fAdd (dBin fAdd (dBin oMul (dBin oMod (dVar 2) (dC (.int 2305843009213693951))) (dC (.int 1000003))) (dBin oMul (dBin oMul (dC (.int 7919)) (dVar 1)) (dVar 1))) (dC (.int 97))) (dC (.int 2305843009213693921))) (dCons (dC (.int 0)) dNil))))))
def srcB : DS := (dSeq (dAsg (dIf (dTest (dBin oLt (dVar 1) (dCB cLen (dCons (dVar 0) dNil)))) (dIx (dVar 0) (dVar 1)) (dC (.int 0))) (dN 2)) srcT)
theorem p_srcT (z : Int) (fu : Option Nat) (post : Rr → Option Nat → Prop) {ns : List Int} {k : Int} (h1 : 0 ≤ k) (h2 : k < 1000000) (h : ∀ x y : Int, 0 ≤ x → x < 2 ^ 1000 → 0 ≤ y → y < modS → post (.own [.int x, .int y, .int 0]) fu) : srcT ⟨fun g => post (.val .none) g.fu, fun r g => post r g.fu, fun _ => False, fun _ => False⟩ ⟨[some (.scr ns), some (.val (.int k)), some (.val (.int z)), none], fu, fu.isNone⟩ := by
  have m0 : ∀ a : Int, 0 ≤ a % (10 ^ Int.toNat 60) ^ Int.toNat 4 ∧ a % (10 ^ Int.toNat 60) ^ Int.toNat 4 < 2 ^ 1000 := fun a => ⟨Int.emod_nonneg _ (Int.ne_of_gt pw4), Int.lt_of_lt_of_le (Int.emod_lt_of_pos _ pw4) pw5⟩
  have p0 : (0 : Int) < 2 ^ 1000 := pow2_pos _
  simp only [↓dSeq, ↓dAsg, ↓dSetL, ↓dNext, ↓dIfS, ↓dRet, ↓dRetL, ↓dDrop, ↓dNever, ↓dBrk, ↓dCnt, ↓dAug, ↓dPar, ↓dPar3, ↓dParL, ↓dApp, ↓dExt, ↓dVar, ↓dC, ↓dBin, ↓fI, ↓fI0, ↓fAdd, ↓fEq, ↓fNe, ↓fIn, ↓dTest, ↓dAndT, ↓dOrT, ↓dNotT, ↓dAndV, ↓dOrV, ↓dNotV, ↓dIf, ↓dNeg, ↓dIsN, ↓dChain, ↓dNil, ↓dCons, ↓dTup, ↓dLst, ↓dFz, ↓valsD, ↓dIx, ↓dCall, ↓dCallL, ↓hasSrc, ↓rrv, ↓dN, ↓dT, ↓dTn, ↓dTc, ↓rsv, ↓Gs.set, ↓dFor, ↓dItems, ↓dRange1, ↓dRange2, ↓dZip, ↓dRev, ↓dLc, ↓dCB, ↓cLen, ↓cAll, ↓cTuple, ↓cInt, ↓cInt1, ↓cInt2, ↓dIsi, ↓dBits, ↓dSetS, ↓dCallS, ↓oSub, ↓oAddI, ↓oMul, ↓oDiv, ↓oMod, ↓oShl, ↓oShr, ↓oPow, ↓oAnd, ↓oLt, ↓oLe, ↓oGt, ↓oGe, ↓oAbs, ↓oMax, ↓oMin, ↓dCallK, ↓cRepr, ↓cSum, ↓cMinL, ↓cMaxL, ↓cSorted, ↓cSortedD, ↓cList, ↓dListR, ↓fInD, ↓fMulL, ↓dSl, ↓oNo, ↓oSo, ↓dBy, ↓dD0, ↓dD1, ↓fAddT, ↓dSlT, ↓dParR, ↓dDS, ↓fInDict, ↓dDGet, ↓cLZ, ↓dEnum, ↓dSlS, ↓dListR2, ↓fLtD, ↓dCatL, ↓fMulS, ↓cIntS, ↓cAny, ↓dRange2X, ↓dDI, ↓dGetI, ↓dPar3M, ↓dLenO, ↓dFld, ↓dMeth, ↓dMake, ↓iFld, ↓iSt, ↓iSeq, ↓jSt, ↓jSeq, ↓jFld, ↓jAug, ↓jWhile, ↓dTL, ↓dRangeN, ↓dRevL, ↓dPar3Z, ↓dCount, ↓cLZN, ↓cSortSet, ↓dPar3E, ↓fMulT, ↓cReprX, ↓cStrI, srcT, ent, svOf, List.map_cons, List.map_nil, List.cons_append, List.nil_append, List.append_nil, List.replicate, List.length_cons, List.length_nil, List.getElem?_cons_zero, List.getElem?_cons_succ, List.getElem?_nil, List.set_cons_zero, List.set_cons_succ, Option.map_some, Option.map_none, Option.isNone_some, Option.isNone_none, forall_const, true_implies, false_implies, and_true, true_and, Bool.true_eq_false, Bool.false_eq_true, reduceCtorEq, noOwn, wipeS, hide, fuN_self, lcD, dYes, Nat.zero_add, Nat.reduceAdd, Nat.reduceLeDiff, Nat.reduceSub, atI_0, atI_1, atI_2, atI_3, atI_4, atI_5, Int.one_mul, eqv_ii, eqv_ss, eqv_num, shaped_int, shaped_num, shaped_none, shaped_ru, flat_str, flat_int, flat_none, List.all_cons, List.all_nil, Bool.and_true, decide_eq_true_eq, decide_eq_false_iff_not, Bool.not_eq_true', Bool.not_eq_false', Decidable.not_not, ↓reduceIte, Bool.false_eq_true, Int.reduceLT, eqv_strs, pick_0, pick_01, pick_10, pick_012, pick_021, pick_102, pick_120, pick_201, pick_210]
  obtain ⟨f1, f2, f3, f4⟩ := src_fin (z := z) h1 h2 h
  exact ⟨pw1, fun _ => ⟨pw2, pw3, pw4, f1, f2, f3, f4 _ (m0 _).1 (m0 _).2⟩, fun _ => ⟨f1, f2, f3, f4 0 (Int.le_refl 0) p0⟩⟩
theorem p_srcB (fu : Option Nat) (post : Rr → Option Nat → Prop) {ns : List Int} {k : Int} (h1 : 0 ≤ k) (h2 : k < 1000000) (h : ∀ x y : Int, 0 ≤ x → x < 2 ^ 1000 → 0 ≤ y → y < modS → post (.own [.int x, .int y, .int 0]) fu) : srcB ⟨fun g => post (.val .none) g.fu, fun r g => post r g.fu, fun _ => False, fun _ => False⟩ (ent N__law_source [.scr ns, .val (.int k)] fu) := by
  simp only [↓dSeq, ↓dAsg, ↓dSetL, ↓dNext, ↓dIfS, ↓dRet, ↓dRetL, ↓dDrop, ↓dNever, ↓dBrk, ↓dCnt, ↓dAug, ↓dPar, ↓dPar3, ↓dParL, ↓dApp, ↓dExt, ↓dVar, ↓dC, ↓dBin, ↓fI, ↓fI0, ↓fAdd, ↓fEq, ↓fNe, ↓fIn, ↓dTest, ↓dAndT, ↓dOrT, ↓dNotT, ↓dAndV, ↓dOrV, ↓dNotV, ↓dIf, ↓dNeg, ↓dIsN, ↓dChain, ↓dNil, ↓dCons, ↓dTup, ↓dLst, ↓dFz, ↓valsD, ↓dIx, ↓dCall, ↓dCallL, ↓hasSrc, ↓rrv, ↓dN, ↓dT, ↓dTn, ↓dTc, ↓rsv, ↓Gs.set, ↓dFor, ↓dItems, ↓dRange1, ↓dRange2, ↓dZip, ↓dRev, ↓dLc, ↓dCB, ↓cLen, ↓cAll, ↓cTuple, ↓cInt, ↓cInt1, ↓cInt2, ↓dIsi, ↓dBits, ↓dSetS, ↓dCallS, ↓oSub, ↓oAddI, ↓oMul, ↓oDiv, ↓oMod, ↓oShl, ↓oShr, ↓oPow, ↓oAnd, ↓oLt, ↓oLe, ↓oGt, ↓oGe, ↓oAbs, ↓oMax, ↓oMin, ↓dCallK, ↓cRepr, ↓cSum, ↓cMinL, ↓cMaxL, ↓cSorted, ↓cSortedD, ↓cList, ↓dListR, ↓fInD, ↓fMulL, ↓dSl, ↓oNo, ↓oSo, ↓dBy, ↓dD0, ↓dD1, ↓fAddT, ↓dSlT, ↓dParR, ↓dDS, ↓fInDict, ↓dDGet, ↓cLZ, ↓dEnum, ↓dSlS, ↓dListR2, ↓fLtD, ↓dCatL, ↓fMulS, ↓cIntS, ↓cAny, ↓dRange2X, ↓dDI, ↓dGetI, ↓dPar3M, ↓dLenO, ↓dFld, ↓dMeth, ↓dMake, ↓iFld, ↓iSt, ↓iSeq, ↓jSt, ↓jSeq, ↓jFld, ↓jAug, ↓jWhile, ↓dTL, ↓dRangeN, ↓dRevL, ↓dPar3Z, ↓dCount, ↓cLZN, ↓cSortSet, ↓dPar3E, ↓fMulT, ↓cReprX, ↓cStrI, srcB, ent, svOf, List.map_cons, List.map_nil, List.cons_append, List.nil_append, List.append_nil, List.replicate, List.length_cons, List.length_nil, List.getElem?_cons_zero, List.getElem?_cons_succ, List.getElem?_nil, List.set_cons_zero, List.set_cons_succ, Option.map_some, Option.map_none, Option.isNone_some, Option.isNone_none, forall_const, true_implies, false_implies, and_true, true_and, Bool.true_eq_false, Bool.false_eq_true, reduceCtorEq, noOwn, wipeS, hide, fuN_self, lcD, dYes, Nat.zero_add, Nat.reduceAdd, Nat.reduceLeDiff, Nat.reduceSub, atI_0, atI_1, atI_2, atI_3, atI_4, atI_5, Int.one_mul, eqv_ii, eqv_ss, eqv_num, shaped_int, shaped_num, shaped_none, shaped_ru, flat_str, flat_int, flat_none, List.all_cons, List.all_nil, Bool.and_true, decide_eq_true_eq, decide_eq_false_iff_not, Bool.not_eq_true', Bool.not_eq_false', Decidable.not_not, ↓reduceIte, Bool.false_eq_true, Int.reduceLT, eqv_strs, pick_0, pick_01, pick_10, pick_012, pick_021, pick_102, pick_120, pick_201, pick_210]
  refine ⟨fun hk => ?_, fun hk => p_srcT 0 fu post h1 h2 h⟩
  obtain ⟨z, ez⟩ := atI_nn h1 hk
  rw [ez]
  exact p_srcT z fu post h1 h2 h
theorem p__law_source (rs : List Rv) (fu : Option Nat) (post : Rr → Option Nat → Prop) (hl : rs.length = 2) (h : fs__law_source rs fu post) : b__law_source ⟨fun g => post (.val .none) g.fu, fun r g => post r g.fu, fun _ => False, fun _ => False⟩ (ent N__law_source rs fu) := by
  obtain ⟨ns, k, rfl, h1, h2, h⟩ := h
  exact p_srcB fu post h1 h2 h
section
variable {P : Program} {w : World} {K : Fg} {mg : Str → Option Value} {base : Heap}
theorem d__law_source (T : Tx w K mg) {cdv : Value} {A : Around} {outer : List Env} {s : Shared} {H : Hp} {E : XK} (hr : Room 0 (A.deeper (envOfC "_law_source" (defScope st__law_source) s.heap.objs.size T.f__law_source cdv))) (hgd : (A.deeper (envOfC "_law_source" (defScope st__law_source) s.heap.objs.size T.f__law_source cdv)).guards = some []) :
    PSs (cxOf CX0 P w K mg base N__law_source "_law_source" (defScope st__law_source) T.f__law_source cdv A outer s H E).nox (defBody st__law_source) (upS K b__law_source) :=
  (ss_cons (s_set (i := 2) sc__law_source.nd rfl (.inl rfl) (e_if (t_lt (e_var 1 (pv 1)) (e_len (by rfl) T.n_len (a_cons (e_var 0 (pv 0)) a_nil))) (e_ix (e_var 0 (pv 0)) (e_var 1 (pv 1))) e_int))
    (ss_cons (s_set (i := 3) sc__law_source.nd rfl (.inl rfl) (e_if (t_ge (e_abs (by rfl) T.n_abs (a_cons (e_var 2 (pv 2)) a_nil)) (e_pow e_int e_int)) (e_mod (e_abs (by rfl) T.n_abs (a_cons (e_var 2 (pv 2)) a_nil)) (e_pow (e_pow e_int e_int) e_int)) e_int))
    (ss_one (s_retL (e_lstL (a_cons (e_var 3 (pv 3)) (a_cons (e_mod (e_add (e_add (e_mul (e_mod (e_var 2 (pv 2)) e_int) e_int) (e_mul (e_mul e_int (e_var 1 (pv 1))) (e_var 1 (pv 1)))) e_int) e_int) (a_cons e_int a_nil))))))))
theorem ok__law_source (T : Tx w K mg) : Fn P w K mg base CX0 1 T.f__law_source T.fd__law_source ["_law_script", "_law_k"] (lift K 2 fs__law_source) := fn_data T.F__law_source sc__law_source b__law_source (fun _ _ _ _ _ _ hr hgd => d__law_source T hr hgd) p__law_source
end
--@@ _law_draw

/-- a draw: some int below the size, one draw less left -/
def fs__law_draw : FSp := fun rs fu post => ∃ (n : Int) (m : Nat), rs = [.src, .val (.int n)] ∧ fu = some (m + 1) ∧ 0 < n ∧ Bn 9000 n ∧ ∀ i : Int, 0 ≤ i → i < n → post (.val (.int i)) (some m)
theorem at3_0 {x y z : V} : atI [x, y, z] 0 = some x := atI_0
theorem at3_1 {x y z : V} : atI [x, y, z] 1 = some y := atI_1
theorem at3_2 {x y z : V} : atI [x, y, z] 2 = some z := atI_2
section
variable {P : Program} {w : World} {K : Fg} {mg : Str → Option Value} {base : Heap}
/-- behind the draw: all but the source is as it was -/
theorem draw_out {F H : Hp} {a : Addr} {m : Nat} {x y z i : Int} {o : HO} (e : Ex F H) (hF : F a = none) (hH : H a = some o) (hx : 0 ≤ x ∧ x < 2 ^ 1000 ∧ 0 ≤ y ∧ y < modS ∧ 0 ≤ z ∧ z + m ≤ 2 ^ 40) :
    Out K F H a (some (m + 1)) (some m) F (upd H a (.lst [.int x, .int y, .int z])) (.int i) (.val (.int i)) := by
  refine ⟨Ex.refl F, fun b u q => ?_, fun b u hb q => ?_, fun b q => .inl q, fun _ => ⟨m, rfl, hF, x, y, z, upd_same, hx⟩, Rp.int i⟩
  · rw [upd_ne (fun h => by rw [h, hF] at q; cases q)]; exact e b u q
  · rw [upd_ne (hb (fun h => nomatch h))]; exact q
theorem ok__law_draw (T : Tx w K mg) : Fn P w K mg base CX0 1 T.f__law_draw T.fd__law_draw ["_law_source_here", "_law_size"] (lift K 2 fs__law_draw) := by
  refine fn_by T.F__law_draw sc__law_draw lift_len fun cdv A outer s H vs Q E hr hg h => ?_
  obtain ⟨F, a, rs, fu, post, e, tm, hlen, hsrc, ⟨n, m, rfl, rfl, n0, nB, hp⟩, hq⟩ := h
  obtain ⟨hF, x, y, z, hH, x0, x1, y0, y1, z0, z1⟩ := hsrc (m + 1) rfl
  have hv : vs = [.ref a, .int n] := by
    cases tm with
    | cons h1 t =>
      cases t.i1
      rw [h1.1]
  subst hv
  have zB : z < 2 ^ 40 := by omega
  have e40 : (2 : Int) ^ 40 = 1099511627776 := by decide
  rw [e40] at zB z1
  refine ⟨_, PSs.nox (pss_cons (ps_if (pt_cmpR op_gt (pe_ix ix_list (pv 0) pe_int (fun _ _ => rfl)) pe_int (nomark _))
      (pss_cons (ps_set (i := 2) sc__law_draw.nd rfl (.inl rfl) (pe_op op_mod (pe_ix ix_list (pv 0) pe_int (fun _ _ => rfl)) (pv 1)))
      (pss_cons (ps_asg (pe_op op_fdivW (pe_ix ix_list (pv 0) pe_int (fun _ _ => rfl)) (pv 1)) (pg_sub (pv 0) pe_int set_list))
      (pss_one (ps_ret (pv 2))))) pss_nil)
    (pss_cons (ps_asg (pe_op op_add (pe_ix ix_list (pv 0) pe_int (fun _ _ => rfl)) pe_int) (pg_sub (pv 0) pe_int set_list))
    (pss_cons (ps_set (i := 3) sc__law_draw.nd rfl (.inl rfl) (pe_ix ix_list (pv 0) pe_int (fun _ _ => rfl)))
    (pss_cons (ps_set (i := 4) sc__law_draw.nd rfl (.inl rfl) (pe_op op_mod (pe_op op_mulX (pe_op op_add (pe_op op_add (pe_ix ix_list (pv 0) pe_int (fun _ _ => rfl)) (pe_op op_mulX (pe_op op_mulX pe_int (pv 3)) (pv 3))) pe_int) pe_int) pe_int))
    (pss_cons (ps_set (i := 4) sc__law_draw.nd rfl (.inl rfl) (pe_op op_mod (pe_op op_mulX (pv 4) (pe_op op_add (pe_op op_mod (pv 4) pe_int) (pe_op op_mulX pe_int (pv 3)))) pe_int))
    (pss_one (ps_ret (pe_op op_mod (pe_op op_add (pe_op op_fdivW (pv 4) pe_int) (pe_op op_fdivW (pv 4) pe_int)) (pv 1))))))))), ?_⟩
  have sq : SqL K H a [.int x, .int y, .int z] := .inl (.inl hH)
  refine ⟨.ref a, rfl, a, _, 0, _, rfl, rfl, sq, at3_0, x, 0, rfl, rfl, _, rfl, ite2 (fun c => ?_) (fun c => ?_)⟩
  · have c' : 0 < x := of_decide_eq_true c
    refine ⟨.ref a, rfl, a, _, 0, _, rfl, rfl, sq, at3_0, .int n, rfl, x, n, rfl, rfl, n0, ?_⟩
    refine ⟨.ref a, rfl, a, _, 0, _, rfl, rfl, sq, at3_0, .int n, rfl, x, n, rfl, rfl, divX 9000 n0 nB (Nat.le_refl _), ?_⟩
    refine ⟨.ref a, rfl, a, _, 0, 0, rfl, rfl, hH, rfl, .int (x % n), rfl, ?_⟩
    refine hq _ _ _ _ F (hp (x % n) (Int.emod_nonneg _ (by omega)) (Int.emod_lt_of_pos _ n0)) (draw_out (x := x / n) (y := y) (z := z) e hF hH ⟨Int.ediv_nonneg x0 (by omega), ?_, y0, y1, z0, by omega⟩)
    exact Int.lt_of_le_of_lt (Int.ediv_le_self _ x0) x1
  · have hH2 : (upd H a (.lst [.int x, .int y, .int (z + 1)])) a = some (.lst [.int x, .int y, .int (z + 1)]) := upd_same
    have sq2 : SqL K (upd H a (.lst [.int x, .int y, .int (z + 1)])) a [.int x, .int y, .int (z + 1)] := .inl (.inl hH2)
    refine ⟨.ref a, rfl, a, _, 2, _, rfl, rfl, sq, at3_2, z, 1, rfl, rfl, .ref a, rfl, a, _, 2, 2, rfl, rfl, hH, rfl, ?_⟩
    refine ⟨.ref a, rfl, a, _, 2, _, rfl, rfl, sq2, at3_2, ?_⟩
    have y2 : y < 2305843009213693921 := y1
    have zz1 : Bn 64 (z + 1) := Bn.small (by omega) (by omega) (by decide)
    have m1 : Bn 128 (65537 * (z + 1)) := (Bn.small (m := 64) (i := 65537) (by decide) (by decide) (by decide)).mul zz1
    have m2 : Bn 192 (65537 * (z + 1) * (z + 1)) := m1.mul zz1
    have m3 : Bn 194 (y + 65537 * (z + 1) * (z + 1) + 11) := ((Bn.small (m := 192) (i := y) (by omega) (by omega) (by decide)).add m2).add (Bn.small (by decide) (by decide) (by decide))
    refine ⟨.ref a, rfl, a, _, 1, _, rfl, rfl, sq2, at3_1, .int (z + 1), rfl, 65537, z + 1, rfl, rfl, mulX 64 64 (Bn.small (by decide) (by decide) (by decide)) zz1 (by decide), .int (z + 1), rfl, _, _, rfl, rfl, mulX 128 64 m1 zz1 (by decide), _, _, rfl, rfl, _, _, rfl, rfl, _, _, rfl, rfl, mulX 194 64 m3 (Bn.small (by decide) (by decide) (by decide)) (by decide), _, _, rfl, rfl, (show (0 : Int) < 2305843009213693921 by decide), ?_⟩
    dsimp only
    generalize hmx : (y + 65537 * (z + 1) * (z + 1) + 11) * 48271 % 2305843009213693921 = mx
    have mx0 : 0 ≤ mx := by rw [← hmx]; exact Int.emod_nonneg _ (by decide)
    have mx1 : mx < 2305843009213693921 := by rw [← hmx]; exact Int.emod_lt_of_pos _ (by decide)
    have r0 := Int.emod_nonneg mx (show (1000003 : Int) ≠ 0 by decide)
    have r1 := Int.emod_lt_of_pos mx (show (0 : Int) < 1000003 by decide)
    have m4 : Bn 128 (99991 * (z + 1)) := (Bn.small (m := 64) (i := 99991) (by decide) (by decide) (by decide)).mul zz1
    have m5 : Bn 129 (mx % 1000003 + 99991 * (z + 1)) := (Bn.small (m := 128) (by omega) (by omega) (by decide)).add m4
    refine ⟨.int mx, rfl, .int mx, rfl, mx, 1000003, rfl, rfl, (show (0 : Int) < 1000003 by decide), .int (z + 1), rfl, 99991, z + 1, rfl, rfl, mulX 64 64 (Bn.small (by decide) (by decide) (by decide)) zz1 (by decide), _, _, rfl, rfl, _, _, rfl, rfl, mulX 64 129 (Bn.small (by omega) (by omega) (by decide)) m5 (by decide), _, _, rfl, rfl, (show (0 : Int) < 2305843009213693907 by decide), ?_⟩
    dsimp only
    generalize mx * (mx % 1000003 + 99991 * (z + 1)) % 2305843009213693907 = my
    refine ⟨.int my, rfl, my, 97, rfl, rfl, divX 64 (by decide) (Bn.small (by decide) (by decide) (by decide)) (by decide), .int my, rfl, my, 1000033, rfl, rfl, divX 64 (by decide) (Bn.small (by decide) (by decide) (by decide)) (by decide), _, _, rfl, rfl, .int n, rfl, _, n, rfl, rfl, n0, ?_⟩
    exact hq _ _ _ _ F (hp _ (Int.emod_nonneg _ (by omega)) (Int.emod_lt_of_pos _ n0)) (draw_out (x := x) (y := y) (z := z + 1) e hF hH ⟨x0, x1, y0, y1, by omega, by omega⟩)
end
--@@ _law_pick
def b__law_pick : DS :=
  (dRet (dIx (dVar 1) (dCall 2 fs__law_draw (dCons (dVar 0) (dCons (dCB cLen (dCons (dVar 1) dNil)) dNil)))))
theorem atI_mem {α : Type} {xs : List α} {k : Int} (h0 : 0 ≤ k) (h : k < xs.length) : ∃ z ∈ xs, atI xs k = some z := by
  unfold atI ixN
  rw [if_pos h0, if_pos h]
  have hk : k.toNat < xs.length := by omega
  exact ⟨xs[k.toNat], List.getElem_mem hk, List.getElem?_eq_getElem hk⟩
def fs__law_pick : FSp := fun rs fu post => ∃ (xs : List Da) (m : Nat), rs = [.src, .val (.list xs)] ∧ fu = some (m + 1) ∧ 0 < xs.length ∧ xs.length < 1000000 ∧ ∀ v ∈ xs, post (.val v) (some m)
theorem p__law_pick (rs : List Rv) (fu : Option Nat) (post : Rr → Option Nat → Prop) (hl : rs.length = 2) (h : fs__law_pick rs fu post) : b__law_pick ⟨fun g => post (.val .none) g.fu, fun r g => post r g.fu, fun _ => False, fun _ => False⟩ (ent N__law_pick rs fu) := by
  obtain ⟨xs, m, rfl, rfl, h0, h1, h⟩ := h
  simp only [↓dSeq, ↓dAsg, ↓dSetL, ↓dNext, ↓dIfS, ↓dRet, ↓dRetL, ↓dDrop, ↓dNever, ↓dBrk, ↓dCnt, ↓dAug, ↓dPar, ↓dPar3, ↓dParL, ↓dApp, ↓dExt, ↓dVar, ↓dC, ↓dBin, ↓fI, ↓fI0, ↓fAdd, ↓fEq, ↓fNe, ↓fIn, ↓dTest, ↓dAndT, ↓dOrT, ↓dNotT, ↓dAndV, ↓dOrV, ↓dNotV, ↓dIf, ↓dNeg, ↓dIsN, ↓dChain, ↓dNil, ↓dCons, ↓dTup, ↓dLst, ↓dFz, ↓valsD, ↓dIx, ↓dCall, ↓dCallL, ↓hasSrc, ↓rrv, ↓dN, ↓dT, ↓dTn, ↓dTc, ↓rsv, ↓Gs.set, ↓dFor, ↓dItems, ↓dRange1, ↓dRange2, ↓dZip, ↓dRev, ↓dLc, ↓dCB, ↓cLen, ↓cAll, ↓cTuple, ↓cInt, ↓cInt1, ↓cInt2, ↓dIsi, ↓dBits, ↓dSetS, ↓dCallS, ↓oSub, ↓oAddI, ↓oMul, ↓oDiv, ↓oMod, ↓oShl, ↓oShr, ↓oPow, ↓oAnd, ↓oLt, ↓oLe, ↓oGt, ↓oGe, ↓oAbs, ↓oMax, ↓oMin, ↓dCallK, ↓cRepr, ↓cSum, ↓cMinL, ↓cMaxL, ↓cSorted, ↓cSortedD, ↓cList, ↓dListR, ↓fInD, ↓fMulL, ↓dSl, ↓oNo, ↓oSo, ↓dBy, ↓dD0, ↓dD1, ↓fAddT, ↓dSlT, ↓dParR, ↓dDS, ↓fInDict, ↓dDGet, ↓cLZ, ↓dEnum, ↓dSlS, ↓dListR2, ↓fLtD, ↓dCatL, ↓fMulS, ↓cIntS, ↓cAny, ↓dRange2X, ↓dDI, ↓dGetI, ↓dPar3M, ↓dLenO, ↓dFld, ↓dMeth, ↓dMake, ↓iFld, ↓iSt, ↓iSeq, ↓jSt, ↓jSeq, ↓jFld, ↓jAug, ↓jWhile, ↓dTL, ↓dRangeN, ↓dRevL, ↓dPar3Z, ↓dCount, ↓cLZN, ↓cSortSet, ↓dPar3E, ↓fMulT, ↓cReprX, ↓cStrI, b__law_pick, fs__law_draw, ent, svOf, List.map_cons, List.map_nil, List.cons_append, List.nil_append, List.append_nil, List.replicate, List.length_cons, List.length_nil, List.getElem?_cons_zero, List.getElem?_cons_succ, List.getElem?_nil, List.set_cons_zero, List.set_cons_succ, Option.map_some, Option.map_none, Option.isNone_some, Option.isNone_none, forall_const, true_implies, false_implies, and_true, true_and, Bool.true_eq_false, Bool.false_eq_true, reduceCtorEq, noOwn, wipeS, hide, fuN_self, lcD, dYes, Nat.zero_add, Nat.reduceAdd, Nat.reduceLeDiff, Nat.reduceSub, atI_0, atI_1, atI_2, atI_3, atI_4, atI_5, Int.one_mul, eqv_ii, eqv_ss, eqv_num, shaped_int, shaped_num, shaped_none, shaped_ru, flat_str, flat_int, flat_none, List.all_cons, List.all_nil, Bool.and_true, decide_eq_true_eq, decide_eq_false_iff_not, Bool.not_eq_true', Bool.not_eq_false', Decidable.not_not, ↓reduceIte, Bool.false_eq_true, Int.reduceLT, eqv_strs, pick_0, pick_01, pick_10, pick_012, pick_021, pick_102, pick_120, pick_201, pick_210]
  refine ⟨_, m, rfl, rfl, by omega, Bn.small (by omega) (by omega) (by decide), fun i i0 i1 => ?_⟩
  obtain ⟨z, hz, ez⟩ := atI_mem (xs := xs) i0 i1
  rw [ez]
  exact h z hz
section
variable {P : Program} {w : World} {K : Fg} {mg : Str → Option Value} {base : Heap}
theorem d__law_pick (T : Tx w K mg) {cdv : Value} {A : Around} {outer : List Env} {s : Shared} {H : Hp} {E : XK} (hr : Room 1 (A.deeper (envOfC "_law_pick" (defScope st__law_pick) s.heap.objs.size T.f__law_pick cdv))) (hgd : (A.deeper (envOfC "_law_pick" (defScope st__law_pick) s.heap.objs.size T.f__law_pick cdv)).guards = some []) :
    PSs (cxOf CX0 P w K mg base N__law_pick "_law_pick" (defScope st__law_pick) T.f__law_pick cdv A outer s H E).nox (defBody st__law_pick) (upS K b__law_pick) :=
  (ss_one (s_ret (e_ix (e_var 1 (pv 1)) (e_call (ok__law_draw T) (hr.mono (by decide)) hgd (by rfl) T.g__law_draw T.F__law_draw.kp T.b__law_draw pass0 (a_cons (e_var 0 (pv 0)) (a_cons (e_len (by rfl) T.n_len (a_cons (e_var 1 (pv 1)) a_nil)) a_nil))))))
theorem ok__law_pick (T : Tx w K mg) : Fn P w K mg base CX0 2 T.f__law_pick T.fd__law_pick ["_law_source_here", "_law_some"] (lift K 2 fs__law_pick) := fn_data T.F__law_pick sc__law_pick b__law_pick (fun _ _ _ _ _ _ hr hgd => d__law_pick T hr hgd) p__law_pick
end
--@@ _law_divisor
def b__law_divisor : DS :=
  (dSeq (dWhile (dTest (dBin oGt (dVar 1) (dC (.int 0))))
    (dPar 0 1 (dVar 1) (dBin oMod (dVar 0) (dVar 1))))
  (dRet (dVar 0)))
def fs__law_divisor : FSp := fun rs fu post => ∃ a b : Int, rs = [.val (.int a), .val (.int b)] ∧ 0 ≤ a ∧ 0 ≤ b ∧ post (.val (.int (Int.gcd a b))) fu
theorem p__law_divisor (rs : List Rv) (fu : Option Nat) (post : Rr → Option Nat → Prop) (hl : rs.length = 2) (h : fs__law_divisor rs fu post) : b__law_divisor ⟨fun g => post (.val .none) g.fu, fun r g => post r g.fu, fun _ => False, fun _ => False⟩ (ent N__law_divisor rs fu) := by
  obtain ⟨a, b, rfl, ha, hb, h⟩ := h
  simp only [↓dSeq, ↓dAsg, ↓dSetL, ↓dNext, ↓dIfS, ↓dRet, ↓dRetL, ↓dDrop, ↓dNever, ↓dBrk, ↓dCnt, ↓dAug, ↓dPar, ↓dPar3, ↓dParL, ↓dApp, ↓dExt, ↓dVar, ↓dC, ↓dBin, ↓fI, ↓fI0, ↓fAdd, ↓fEq, ↓fNe, ↓fIn, ↓dTest, ↓dAndT, ↓dOrT, ↓dNotT, ↓dAndV, ↓dOrV, ↓dNotV, ↓dIf, ↓dNeg, ↓dIsN, ↓dChain, ↓dNil, ↓dCons, ↓dTup, ↓dLst, ↓dFz, ↓valsD, ↓dIx, ↓dCall, ↓dCallL, ↓hasSrc, ↓rrv, ↓dN, ↓dT, ↓dTn, ↓dTc, ↓rsv, ↓Gs.set, ↓dFor, ↓dItems, ↓dRange1, ↓dRange2, ↓dZip, ↓dRev, ↓dLc, ↓dCB, ↓cLen, ↓cAll, ↓cTuple, ↓cInt, ↓cInt1, ↓cInt2, ↓dIsi, ↓dBits, ↓dSetS, ↓dCallS, ↓oSub, ↓oAddI, ↓oMul, ↓oDiv, ↓oMod, ↓oShl, ↓oShr, ↓oPow, ↓oAnd, ↓oLt, ↓oLe, ↓oGt, ↓oGe, ↓oAbs, ↓oMax, ↓oMin, ↓dCallK, ↓cRepr, ↓cSum, ↓cMinL, ↓cMaxL, ↓cSorted, ↓cSortedD, ↓cList, ↓dListR, ↓fInD, ↓fMulL, ↓dSl, ↓oNo, ↓oSo, ↓dBy, ↓dD0, ↓dD1, ↓fAddT, ↓dSlT, ↓dParR, ↓dDS, ↓fInDict, ↓dDGet, ↓cLZ, ↓dEnum, ↓dSlS, ↓dListR2, ↓fLtD, ↓dCatL, ↓fMulS, ↓cIntS, ↓cAny, ↓dRange2X, ↓dDI, ↓dGetI, ↓dPar3M, ↓dLenO, ↓dFld, ↓dMeth, ↓dMake, ↓iFld, ↓iSt, ↓iSeq, ↓jSt, ↓jSeq, ↓jFld, ↓jAug, ↓jWhile, ↓dTL, ↓dRangeN, ↓dRevL, ↓dPar3Z, ↓dCount, ↓cLZN, ↓cSortSet, ↓dPar3E, ↓fMulT, ↓cReprX, ↓cStrI, b__law_divisor, ent, svOf, List.map_cons, List.map_nil, List.cons_append, List.nil_append, List.append_nil, List.replicate, List.length_cons, List.length_nil, List.getElem?_cons_zero, List.getElem?_cons_succ, List.getElem?_nil, List.set_cons_zero, List.set_cons_succ, Option.map_some, Option.map_none, Option.isNone_some, Option.isNone_none, forall_const, true_implies, false_implies, and_true, true_and, Bool.true_eq_false, Bool.false_eq_true, reduceCtorEq, noOwn, wipeS, hide, fuN_self, lcD, dYes, Nat.zero_add, Nat.reduceAdd, Nat.reduceLeDiff, Nat.reduceSub, atI_0, atI_1, atI_2, atI_3, atI_4, atI_5, Int.one_mul, eqv_ii, eqv_ss, eqv_num, shaped_int, shaped_num, shaped_none, shaped_ru, flat_str, flat_int, flat_none, List.all_cons, List.all_nil, Bool.and_true, decide_eq_true_eq, decide_eq_false_iff_not, Bool.not_eq_true', Bool.not_eq_false', Decidable.not_not, ↓reduceIte, Bool.false_eq_true, Int.reduceLT, eqv_strs, pick_0, pick_01, pick_10, pick_012, pick_021, pick_102, pick_120, pick_201, pick_210]
  refine ⟨fun m g => ∃ x y : Int, g = ⟨[some (.val (.int x)), some (.val (.int y))], fu, fu.isNone⟩ ∧ 0 ≤ x ∧ 0 ≤ y ∧ y.toNat = m ∧ Int.gcd x y = Int.gcd a b, ⟨b.toNat, a, b, rfl, ha, hb, rfl, rfl⟩, fun m g hg => ?_⟩
  obtain ⟨x, y, rfl, hx, hy, rfl, e⟩ := hg
  simp only [↓dSeq, ↓dAsg, ↓dSetL, ↓dNext, ↓dIfS, ↓dRet, ↓dRetL, ↓dDrop, ↓dNever, ↓dBrk, ↓dCnt, ↓dAug, ↓dPar, ↓dPar3, ↓dParL, ↓dApp, ↓dExt, ↓dVar, ↓dC, ↓dBin, ↓fI, ↓fI0, ↓fAdd, ↓fEq, ↓fNe, ↓fIn, ↓dTest, ↓dAndT, ↓dOrT, ↓dNotT, ↓dAndV, ↓dOrV, ↓dNotV, ↓dIf, ↓dNeg, ↓dIsN, ↓dChain, ↓dNil, ↓dCons, ↓dTup, ↓dLst, ↓dFz, ↓valsD, ↓dIx, ↓dCall, ↓dCallL, ↓hasSrc, ↓rrv, ↓dN, ↓dT, ↓dTn, ↓dTc, ↓rsv, ↓Gs.set, ↓dFor, ↓dItems, ↓dRange1, ↓dRange2, ↓dZip, ↓dRev, ↓dLc, ↓dCB, ↓cLen, ↓cAll, ↓cTuple, ↓cInt, ↓cInt1, ↓cInt2, ↓dIsi, ↓dBits, ↓dSetS, ↓dCallS, ↓oSub, ↓oAddI, ↓oMul, ↓oDiv, ↓oMod, ↓oShl, ↓oShr, ↓oPow, ↓oAnd, ↓oLt, ↓oLe, ↓oGt, ↓oGe, ↓oAbs, ↓oMax, ↓oMin, ↓dCallK, ↓cRepr, ↓cSum, ↓cMinL, ↓cMaxL, ↓cSorted, ↓cSortedD, ↓cList, ↓dListR, ↓fInD, ↓fMulL, ↓dSl, ↓oNo, ↓oSo, ↓dBy, ↓dD0, ↓dD1, ↓fAddT, ↓dSlT, ↓dParR, ↓dDS, ↓fInDict, ↓dDGet, ↓cLZ, ↓dEnum, ↓dSlS, ↓dListR2, ↓fLtD, ↓dCatL, ↓fMulS, ↓cIntS, ↓cAny, ↓dRange2X, ↓dDI, ↓dGetI, ↓dPar3M, ↓dLenO, ↓dFld, ↓dMeth, ↓dMake, ↓iFld, ↓iSt, ↓iSeq, ↓jSt, ↓jSeq, ↓jFld, ↓jAug, ↓jWhile, ↓dTL, ↓dRangeN, ↓dRevL, ↓dPar3Z, ↓dCount, ↓cLZN, ↓cSortSet, ↓dPar3E, ↓fMulT, ↓cReprX, ↓cStrI, ent, svOf, List.map_cons, List.map_nil, List.cons_append, List.nil_append, List.append_nil, List.replicate, List.length_cons, List.length_nil, List.getElem?_cons_zero, List.getElem?_cons_succ, List.getElem?_nil, List.set_cons_zero, List.set_cons_succ, Option.map_some, Option.map_none, Option.isNone_some, Option.isNone_none, forall_const, true_implies, false_implies, and_true, true_and, Bool.true_eq_false, Bool.false_eq_true, reduceCtorEq, noOwn, wipeS, hide, fuN_self, lcD, dYes, Nat.zero_add, Nat.reduceAdd, Nat.reduceLeDiff, Nat.reduceSub, atI_0, atI_1, atI_2, atI_3, atI_4, atI_5, Int.one_mul, eqv_ii, eqv_ss, eqv_num, shaped_int, shaped_num, shaped_none, shaped_ru, flat_str, flat_int, flat_none, List.all_cons, List.all_nil, Bool.and_true, decide_eq_true_eq, decide_eq_false_iff_not, Bool.not_eq_true', Bool.not_eq_false', Decidable.not_not, ↓reduceIte, Bool.false_eq_true, Int.reduceLT, eqv_strs, pick_0, pick_01, pick_10, pick_012, pick_021, pick_102, pick_120, pick_201, pick_210]
  refine ⟨fun hy0 => ?_, fun heq => ?_⟩
  · refine ⟨hy0, (x % y).toNat, ?_, y, x % y, rfl, hy, Int.emod_nonneg _ (by omega), rfl, by rw [gcd_step hx hy0, e]⟩
    have := Int.emod_lt_of_pos x hy0
    have := Int.emod_nonneg x (show y ≠ 0 by omega)
    omega
  · have hy0 : y = 0 := by omega
    subst hy0
    rw [Int.gcd_zero_right] at e
    have : x = ((Int.gcd a b : Nat) : Int) := by omega
    rw [this]
    exact h
section
variable {P : Program} {w : World} {K : Fg} {mg : Str → Option Value} {base : Heap}
theorem d__law_divisor (T : Tx w K mg) {cdv : Value} {A : Around} {outer : List Env} {s : Shared} {H : Hp} {E : XK} (hr : Room 0 (A.deeper (envOfC "_law_divisor" (defScope st__law_divisor) s.heap.objs.size T.f__law_divisor cdv))) (hgd : (A.deeper (envOfC "_law_divisor" (defScope st__law_divisor) s.heap.objs.size T.f__law_divisor cdv)).guards = some []) :
    PSs (cxOf CX0 P w K mg base N__law_divisor "_law_divisor" (defScope st__law_divisor) T.f__law_divisor cdv A outer s H E).nox (defBody st__law_divisor) (upS K b__law_divisor) :=
  (ss_cons (s_while PassesOwn.never (t_gt (e_var 1 (pv 1)) e_int) (ss_one (s_par (i := 0) (j := 1) rfl sc__law_divisor.nd rfl rfl (by decide) rfl rfl (e_var 1 (pv 1)) (e_mod (e_var 0 (pv 0)) (e_var 1 (pv 1))))))
    (ss_one (s_ret (e_var 0 (pv 0)))))
theorem ok__law_divisor (T : Tx w K mg) : Fn P w K mg base CX0 1 T.f__law_divisor T.fd__law_divisor ["_law_one", "_law_other"] (lift K 2 fs__law_divisor) := fn_data T.F__law_divisor sc__law_divisor b__law_divisor (fun _ _ _ _ _ _ hr hgd => d__law_divisor T hr hgd) p__law_divisor
end
--@@ _law_low
def b__law_low : DS :=
  (dSeq (dAsg (dCall 2 fs__law_divisor (dCons (dVar 0) (dCons (dVar 1) dNil))) (dN 2))
  (dRet (dTup (dCons (dBin oDiv (dVar 0) (dVar 2)) (dCons (dBin oDiv (dVar 1) (dVar 2)) dNil)))))
def fs__law_low : FSp := fun rs fu post => ∃ n d : Int, rs = [.val (.int n), .val (.int d)] ∧ 0 ≤ n ∧ 0 < d ∧ Bn 9000 d ∧ post (.val (lowD n d)) fu
theorem p__law_low (rs : List Rv) (fu : Option Nat) (post : Rr → Option Nat → Prop) (hl : rs.length = 2) (h : fs__law_low rs fu post) : b__law_low ⟨fun g => post (.val .none) g.fu, fun r g => post r g.fu, fun _ => False, fun _ => False⟩ (ent N__law_low rs fu) := by
  obtain ⟨n, d, rfl, hn, hd, hs, h⟩ := h
  simp only [↓dSeq, ↓dAsg, ↓dSetL, ↓dNext, ↓dIfS, ↓dRet, ↓dRetL, ↓dDrop, ↓dNever, ↓dBrk, ↓dCnt, ↓dAug, ↓dPar, ↓dPar3, ↓dParL, ↓dApp, ↓dExt, ↓dVar, ↓dC, ↓dBin, ↓fI, ↓fI0, ↓fAdd, ↓fEq, ↓fNe, ↓fIn, ↓dTest, ↓dAndT, ↓dOrT, ↓dNotT, ↓dAndV, ↓dOrV, ↓dNotV, ↓dIf, ↓dNeg, ↓dIsN, ↓dChain, ↓dNil, ↓dCons, ↓dTup, ↓dLst, ↓dFz, ↓valsD, ↓dIx, ↓dCall, ↓dCallL, ↓hasSrc, ↓rrv, ↓dN, ↓dT, ↓dTn, ↓dTc, ↓rsv, ↓Gs.set, ↓dFor, ↓dItems, ↓dRange1, ↓dRange2, ↓dZip, ↓dRev, ↓dLc, ↓dCB, ↓cLen, ↓cAll, ↓cTuple, ↓cInt, ↓cInt1, ↓cInt2, ↓dIsi, ↓dBits, ↓dSetS, ↓dCallS, ↓oSub, ↓oAddI, ↓oMul, ↓oDiv, ↓oMod, ↓oShl, ↓oShr, ↓oPow, ↓oAnd, ↓oLt, ↓oLe, ↓oGt, ↓oGe, ↓oAbs, ↓oMax, ↓oMin, ↓dCallK, ↓cRepr, ↓cSum, ↓cMinL, ↓cMaxL, ↓cSorted, ↓cSortedD, ↓cList, ↓dListR, ↓fInD, ↓fMulL, ↓dSl, ↓oNo, ↓oSo, ↓dBy, ↓dD0, ↓dD1, ↓fAddT, ↓dSlT, ↓dParR, ↓dDS, ↓fInDict, ↓dDGet, ↓cLZ, ↓dEnum, ↓dSlS, ↓dListR2, ↓fLtD, ↓dCatL, ↓fMulS, ↓cIntS, ↓cAny, ↓dRange2X, ↓dDI, ↓dGetI, ↓dPar3M, ↓dLenO, ↓dFld, ↓dMeth, ↓dMake, ↓iFld, ↓iSt, ↓iSeq, ↓jSt, ↓jSeq, ↓jFld, ↓jAug, ↓jWhile, ↓dTL, ↓dRangeN, ↓dRevL, ↓dPar3Z, ↓dCount, ↓cLZN, ↓cSortSet, ↓dPar3E, ↓fMulT, ↓cReprX, ↓cStrI, b__law_low, fs__law_divisor, ent, svOf, List.map_cons, List.map_nil, List.cons_append, List.nil_append, List.append_nil, List.replicate, List.length_cons, List.length_nil, List.getElem?_cons_zero, List.getElem?_cons_succ, List.getElem?_nil, List.set_cons_zero, List.set_cons_succ, Option.map_some, Option.map_none, Option.isNone_some, Option.isNone_none, forall_const, true_implies, false_implies, and_true, true_and, Bool.true_eq_false, Bool.false_eq_true, reduceCtorEq, noOwn, wipeS, hide, fuN_self, lcD, dYes, Nat.zero_add, Nat.reduceAdd, Nat.reduceLeDiff, Nat.reduceSub, atI_0, atI_1, atI_2, atI_3, atI_4, atI_5, Int.one_mul, eqv_ii, eqv_ss, eqv_num, shaped_int, shaped_num, shaped_none, shaped_ru, flat_str, flat_int, flat_none, List.all_cons, List.all_nil, Bool.and_true, decide_eq_true_eq, decide_eq_false_iff_not, Bool.not_eq_true', Bool.not_eq_false', Decidable.not_not, ↓reduceIte, Bool.false_eq_true, Int.reduceLT, eqv_strs, pick_0, pick_01, pick_10, pick_012, pick_021, pick_102, pick_120, pick_201, pick_210]
  have dv : ∀ x, CDivW x (Int.gcd n d) := fun x => divX 9000 (gcd_pos hd) (hs.le (Int.le_of_lt (gcd_pos hd)) (gcd_le hd)) (Nat.le_refl _)
  refine ⟨n, d, rfl, hn, by omega, dv _, dv _, h⟩
section
variable {P : Program} {w : World} {K : Fg} {mg : Str → Option Value} {base : Heap}
theorem d__law_low (T : Tx w K mg) {cdv : Value} {A : Around} {outer : List Env} {s : Shared} {H : Hp} {E : XK} (hr : Room 1 (A.deeper (envOfC "_law_low" (defScope st__law_low) s.heap.objs.size T.f__law_low cdv))) (hgd : (A.deeper (envOfC "_law_low" (defScope st__law_low) s.heap.objs.size T.f__law_low cdv)).guards = some []) :
    PSs (cxOf CX0 P w K mg base N__law_low "_law_low" (defScope st__law_low) T.f__law_low cdv A outer s H E).nox (defBody st__law_low) (upS K b__law_low) :=
  (ss_cons (s_set (i := 2) sc__law_low.nd rfl (.inl rfl) (e_call (ok__law_divisor T) (hr.mono (by decide)) hgd (by rfl) T.g__law_divisor T.F__law_divisor.kp T.b__law_divisor pass0 (a_cons (e_var 0 (pv 0)) (a_cons (e_var 1 (pv 1)) a_nil))))
    (ss_one (s_ret (e_tup (a_cons (e_div (e_var 0 (pv 0)) (e_var 2 (pv 2))) (a_cons (e_div (e_var 1 (pv 1)) (e_var 2 (pv 2))) a_nil))))))
theorem ok__law_low (T : Tx w K mg) : Fn P w K mg base CX0 2 T.f__law_low T.fd__law_low ["_law_n", "_law_d"] (lift K 2 fs__law_low) := fn_data T.F__law_low sc__law_low b__law_low (fun _ _ _ _ _ _ hr hgd => d__law_low T hr hgd) p__law_low
end
--@@ _law_scaled
def b__law_scaled : DS :=
  (dSeq (dAsg (dVar 0) (dT 2 (dTc (dN 2) (dTc (dN 3) dTn))))
  (dRet (dIf (dTest (dBin oGe (dVar 1) (dC (.int 0)))) (dCall 2 fs__law_low (dCons (dBin oShl (dVar 2) (dVar 1)) (dCons (dVar 3) dNil))) (dCall 2 fs__law_low (dCons (dVar 2) (dCons (dBin oShl (dVar 3) (dBin oSub (dC (.int 0)) (dVar 1))) dNil))))))
/-- times 2 ** e, in lowest terms -/
def scl (n d e : Int) : Int × Int := low (scI n d e).1 (scI n d e).2
def fs__law_scaled : FSp := fun rs fu post => ∃ n d e : Int, rs = [.val (num n d), .val (.int e)] ∧ 0 ≤ n ∧ Bn 100000 n ∧ 0 < d ∧ Bn 4000 d ∧ -4000 ≤ e ∧ e ≤ 4000 ∧ post (.val (nm (scl n d e))) fu
theorem p__law_scaled (rs : List Rv) (fu : Option Nat) (post : Rr → Option Nat → Prop) (hl : rs.length = 2) (h : fs__law_scaled rs fu post) : b__law_scaled ⟨fun g => post (.val .none) g.fu, fun r g => post r g.fu, fun _ => False, fun _ => False⟩ (ent N__law_scaled rs fu) := by
  obtain ⟨n, d, e, rfl, hn, bn, hd, bd, h1, h2, h⟩ := h
  simp only [↓dSeq, ↓dAsg, ↓dSetL, ↓dNext, ↓dIfS, ↓dRet, ↓dRetL, ↓dDrop, ↓dNever, ↓dBrk, ↓dCnt, ↓dAug, ↓dPar, ↓dPar3, ↓dParL, ↓dApp, ↓dExt, ↓dVar, ↓dC, ↓dBin, ↓fI, ↓fI0, ↓fAdd, ↓fEq, ↓fNe, ↓fIn, ↓dTest, ↓dAndT, ↓dOrT, ↓dNotT, ↓dAndV, ↓dOrV, ↓dNotV, ↓dIf, ↓dNeg, ↓dIsN, ↓dChain, ↓dNil, ↓dCons, ↓dTup, ↓dLst, ↓dFz, ↓valsD, ↓dIx, ↓dCall, ↓dCallL, ↓hasSrc, ↓rrv, ↓dN, ↓dT, ↓dTn, ↓dTc, ↓rsv, ↓Gs.set, ↓dFor, ↓dItems, ↓dRange1, ↓dRange2, ↓dZip, ↓dRev, ↓dLc, ↓dCB, ↓cLen, ↓cAll, ↓cTuple, ↓cInt, ↓cInt1, ↓cInt2, ↓dIsi, ↓dBits, ↓dSetS, ↓dCallS, ↓oSub, ↓oAddI, ↓oMul, ↓oDiv, ↓oMod, ↓oShl, ↓oShr, ↓oPow, ↓oAnd, ↓oLt, ↓oLe, ↓oGt, ↓oGe, ↓oAbs, ↓oMax, ↓oMin, ↓dCallK, ↓cRepr, ↓cSum, ↓cMinL, ↓cMaxL, ↓cSorted, ↓cSortedD, ↓cList, ↓dListR, ↓fInD, ↓fMulL, ↓dSl, ↓oNo, ↓oSo, ↓dBy, ↓dD0, ↓dD1, ↓fAddT, ↓dSlT, ↓dParR, ↓dDS, ↓fInDict, ↓dDGet, ↓cLZ, ↓dEnum, ↓dSlS, ↓dListR2, ↓fLtD, ↓dCatL, ↓fMulS, ↓cIntS, ↓cAny, ↓dRange2X, ↓dDI, ↓dGetI, ↓dPar3M, ↓dLenO, ↓dFld, ↓dMeth, ↓dMake, ↓iFld, ↓iSt, ↓iSeq, ↓jSt, ↓jSeq, ↓jFld, ↓jAug, ↓jWhile, ↓dTL, ↓dRangeN, ↓dRevL, ↓dPar3Z, ↓dCount, ↓cLZN, ↓cSortSet, ↓dPar3E, ↓fMulT, ↓cReprX, ↓cStrI, b__law_scaled, fs__law_low, ent, svOf, List.map_cons, List.map_nil, List.cons_append, List.nil_append, List.append_nil, List.replicate, List.length_cons, List.length_nil, List.getElem?_cons_zero, List.getElem?_cons_succ, List.getElem?_nil, List.set_cons_zero, List.set_cons_succ, Option.map_some, Option.map_none, Option.isNone_some, Option.isNone_none, forall_const, true_implies, false_implies, and_true, true_and, Bool.true_eq_false, Bool.false_eq_true, reduceCtorEq, noOwn, wipeS, hide, fuN_self, lcD, dYes, Nat.zero_add, Nat.reduceAdd, Nat.reduceLeDiff, Nat.reduceSub, atI_0, atI_1, atI_2, atI_3, atI_4, atI_5, Int.one_mul, eqv_ii, eqv_ss, eqv_num, shaped_int, shaped_num, shaped_none, shaped_ru, flat_str, flat_int, flat_none, List.all_cons, List.all_nil, Bool.and_true, decide_eq_true_eq, decide_eq_false_iff_not, Bool.not_eq_true', Bool.not_eq_false', Decidable.not_not, ↓reduceIte, Bool.false_eq_true, Int.reduceLT, eqv_strs, pick_0, pick_01, pick_10, pick_012, pick_021, pick_102, pick_120, pick_201, pick_210]
  refine ⟨fun he => ⟨shlX 100000 bn he (by omega), _, _, rfl, Int.mul_nonneg hn (Int.le_of_lt (pow2_pos _)), hd, bd.mono (by decide), ?_⟩, fun he => ⟨shlX 4000 bd (by omega) (by omega), _, _, rfl, hn, Int.mul_pos hd (pow2_pos _), (shlB bd).mono (by omega), ?_⟩⟩
  · have e1 : scI n d e = (n * 2 ^ e.toNat, d) := by
      unfold scI
      rw [show (-e).toNat = 0 by omega, Int.pow_zero, Int.mul_one]
    unfold scl at h
    rw [e1] at h
    exact h
  · have e1 : scI n d e = (n, d * 2 ^ (0 - e).toNat) := by
      unfold scI
      rw [show e.toNat = 0 by omega, Int.pow_zero, Int.mul_one, show (0 - e).toNat = (-e).toNat by omega]
    unfold scl at h
    rw [e1] at h
    exact h
theorem scl_ok {n d e : Int} (hn : 0 < n) (hd : 0 < d) : 0 < (scl n d e).1 ∧ 0 < (scl n d e).2 ∧ Int.gcd (scl n d e).1 (scl n d e).2 = 1 := by
  obtain ⟨a, b⟩ := scI_pos (f := e) hn hd
  obtain ⟨h1, h2, h3, _⟩ := low_pos a b
  exact ⟨h1, h2, h3⟩
theorem scl_B {n d e : Int} {a b : Nat} (hn : 0 < n) (hd : 0 < d) (bn : Bn a n) (bd : Bn b d) (m : Nat) (hm : (a : Int) + e + 1 ≤ m) (hm' : (b : Int) - e + 1 ≤ m) (ha : a + 1 ≤ m) (hb : b + 1 ≤ m) : Bn m (scl n d e).1 ∧ Bn m (scl n d e).2 := by
  obtain ⟨p, q⟩ := scI_pos (f := e) hn hd
  obtain ⟨h1, h2, h3, h4, h5⟩ := low_pos p q
  have b1 : Bn m (scI n d e).1 := (shlB bn).mono (by omega)
  have b2 : Bn m (scI n d e).2 := (shlB bd).mono (by omega)
  exact ⟨b1.le (Int.le_of_lt h1) h4, b2.le (Int.le_of_lt h2) h5⟩
section
variable {P : Program} {w : World} {K : Fg} {mg : Str → Option Value} {base : Heap}
theorem d__law_scaled (T : Tx w K mg) {cdv : Value} {A : Around} {outer : List Env} {s : Shared} {H : Hp} {E : XK} (hr : Room 2 (A.deeper (envOfC "_law_scaled" (defScope st__law_scaled) s.heap.objs.size T.f__law_scaled cdv))) (hgd : (A.deeper (envOfC "_law_scaled" (defScope st__law_scaled) s.heap.objs.size T.f__law_scaled cdv)).guards = some []) :
    PSs (cxOf CX0 P w K mg base N__law_scaled "_law_scaled" (defScope st__law_scaled) T.f__law_scaled cdv A outer s H E).nox (defBody st__law_scaled) (upS K b__law_scaled) :=
  (ss_cons (s_asg (e_var 0 (pv 0)) (g_tup rfl (gs_cons (g_name (pg_name (i := 2) sc__law_scaled.nd rfl (.inl rfl))) (gs_cons (g_name (pg_name (i := 3) sc__law_scaled.nd rfl (.inl rfl))) gs_nil))))
    (ss_one (s_ret (e_if (t_ge (e_var 1 (pv 1)) e_int) (e_call (ok__law_low T) (hr.mono (by decide)) hgd (by rfl) T.g__law_low T.F__law_low.kp T.b__law_low pass0 (a_cons (e_shl (e_var 2 (pv 2)) (e_var 1 (pv 1))) (a_cons (e_var 3 (pv 3)) a_nil))) (e_call (ok__law_low T) (hr.mono (by decide)) hgd (by rfl) T.g__law_low T.F__law_low.kp T.b__law_low pass0 (a_cons (e_var 2 (pv 2)) (a_cons (e_shl (e_var 3 (pv 3)) (e_sub e_int (e_var 1 (pv 1)))) a_nil)))))))
theorem ok__law_scaled (T : Tx w K mg) : Fn P w K mg base CX0 3 T.f__law_scaled T.fd__law_scaled ["_law_number_here", "_law_e"] (lift K 2 fs__law_scaled) := fn_data T.F__law_scaled sc__law_scaled b__law_scaled (fun _ _ _ _ _ _ hr hgd => d__law_scaled T hr hgd) p__law_scaled
end
--@@ _law_number
def b__law_number : DS :=
  (dSeq (dPar 2 3 (dBin fAdd (dC (.int 1)) (dCall 2 fs__law_draw (dCons (dVar 0) (dCons (dCall 2 fs__law_pick (dCons (dVar 0) (dCons (dFz (dLst (dCons (dC (.int 8)) (dCons (dC (.int 64)) (dCons (dC (.int 1024)) (dCons (dVar 1) dNil)))))) dNil))) dNil)))) (dCall 2 fs__law_pick (dCons (dVar 0) (dCons (dFz (dLst (dCons (dC (.int 1)) (dCons (dC (.int 1)) (dCons (dC (.int 2)) (dCons (dC (.int 16)) (dCons (dC (.int 3)) (dCons (dC (.int 10)) dNil)))))))) dNil))))
  (dSeq (dAsg (dCall 2 fs__law_pick (dCons (dVar 0) (dCons (dFz (dLst (dCons (dVar 3) (dCons (dVar 3) (dCons (dBin fAdd (dC (.int 1)) (dCall 2 fs__law_draw (dCons (dVar 0) (dCons (dVar 1) dNil)))) dNil))))) dNil))) (dN 3))
  (dRet (dCall 2 fs__law_scaled (dCons (dCall 2 fs__law_low (dCons (dVar 2) (dCons (dVar 3) dNil))) (dCons (dBin oSub (dCall 2 fs__law_draw (dCons (dVar 0) (dCons (dC (.int 13)) dNil))) (dC (.int 6))) dNil))))))
def fs__law_number : FSp := fun rs fu post => ∃ (mo : Int) (m : Nat), rs = [.src, .val (.int mo)] ∧ fu = some (m + 6) ∧ 1 ≤ mo ∧ mo ≤ 1000000000000 ∧ ∀ n d : Int, 0 < n → Bn 80 n → 0 < d → Bn 80 d → Int.gcd n d = 1 → post (.val (num n d)) (some m)
theorem p__law_number (rs : List Rv) (fu : Option Nat) (post : Rr → Option Nat → Prop) (hl : rs.length = 2) (h : fs__law_number rs fu post) : b__law_number ⟨fun g => post (.val .none) g.fu, fun r g => post r g.fu, fun _ => False, fun _ => False⟩ (ent N__law_number rs fu) := by
  obtain ⟨mo, m, rfl, rfl, h0, h1, h⟩ := h
  simp only [↓dSeq, ↓dAsg, ↓dSetL, ↓dNext, ↓dIfS, ↓dRet, ↓dRetL, ↓dDrop, ↓dNever, ↓dBrk, ↓dCnt, ↓dAug, ↓dPar, ↓dPar3, ↓dParL, ↓dApp, ↓dExt, ↓dVar, ↓dC, ↓dBin, ↓fI, ↓fI0, ↓fAdd, ↓fEq, ↓fNe, ↓fIn, ↓dTest, ↓dAndT, ↓dOrT, ↓dNotT, ↓dAndV, ↓dOrV, ↓dNotV, ↓dIf, ↓dNeg, ↓dIsN, ↓dChain, ↓dNil, ↓dCons, ↓dTup, ↓dLst, ↓dFz, ↓valsD, ↓dIx, ↓dCall, ↓dCallL, ↓hasSrc, ↓rrv, ↓dN, ↓dT, ↓dTn, ↓dTc, ↓rsv, ↓Gs.set, ↓dFor, ↓dItems, ↓dRange1, ↓dRange2, ↓dZip, ↓dRev, ↓dLc, ↓dCB, ↓cLen, ↓cAll, ↓cTuple, ↓cInt, ↓cInt1, ↓cInt2, ↓dIsi, ↓dBits, ↓dSetS, ↓dCallS, ↓oSub, ↓oAddI, ↓oMul, ↓oDiv, ↓oMod, ↓oShl, ↓oShr, ↓oPow, ↓oAnd, ↓oLt, ↓oLe, ↓oGt, ↓oGe, ↓oAbs, ↓oMax, ↓oMin, ↓dCallK, ↓cRepr, ↓cSum, ↓cMinL, ↓cMaxL, ↓cSorted, ↓cSortedD, ↓cList, ↓dListR, ↓fInD, ↓fMulL, ↓dSl, ↓oNo, ↓oSo, ↓dBy, ↓dD0, ↓dD1, ↓fAddT, ↓dSlT, ↓dParR, ↓dDS, ↓fInDict, ↓dDGet, ↓cLZ, ↓dEnum, ↓dSlS, ↓dListR2, ↓fLtD, ↓dCatL, ↓fMulS, ↓cIntS, ↓cAny, ↓dRange2X, ↓dDI, ↓dGetI, ↓dPar3M, ↓dLenO, ↓dFld, ↓dMeth, ↓dMake, ↓iFld, ↓iSt, ↓iSeq, ↓jSt, ↓jSeq, ↓jFld, ↓jAug, ↓jWhile, ↓dTL, ↓dRangeN, ↓dRevL, ↓dPar3Z, ↓dCount, ↓cLZN, ↓cSortSet, ↓dPar3E, ↓fMulT, ↓cReprX, ↓cStrI, b__law_number, fs__law_draw, fs__law_pick, fs__law_low, fs__law_scaled, ent, svOf, List.map_cons, List.map_nil, List.cons_append, List.nil_append, List.append_nil, List.replicate, List.length_cons, List.length_nil, List.getElem?_cons_zero, List.getElem?_cons_succ, List.getElem?_nil, List.set_cons_zero, List.set_cons_succ, Option.map_some, Option.map_none, Option.isNone_some, Option.isNone_none, forall_const, true_implies, false_implies, and_true, true_and, Bool.true_eq_false, Bool.false_eq_true, reduceCtorEq, noOwn, wipeS, hide, fuN_self, lcD, dYes, Nat.zero_add, Nat.reduceAdd, Nat.reduceLeDiff, Nat.reduceSub, atI_0, atI_1, atI_2, atI_3, atI_4, atI_5, Int.one_mul, eqv_ii, eqv_ss, eqv_num, shaped_int, shaped_num, shaped_none, shaped_ru, flat_str, flat_int, flat_none, List.all_cons, List.all_nil, Bool.and_true, decide_eq_true_eq, decide_eq_false_iff_not, Bool.not_eq_true', Bool.not_eq_false', Decidable.not_not, ↓reduceIte, Bool.false_eq_true, Int.reduceLT, eqv_strs, pick_0, pick_01, pick_10, pick_012, pick_021, pick_102, pick_120, pick_201, pick_210]
  refine ⟨_, m + 5, rfl, rfl, by show 0 < 4; decide, by show 4 < 1000000; decide, fun v hv => ?_⟩
  obtain ⟨s, rfl, s0, s1⟩ : ∃ s : Int, v = .int s ∧ 0 < s ∧ s ≤ 1000000000000 := by
    simp only [List.mem_cons, List.not_mem_nil, or_false] at hv
    rcases hv with rfl | rfl | rfl | rfl
    · exact ⟨_, rfl, by decide, by decide⟩
    · exact ⟨_, rfl, by decide, by decide⟩
    · exact ⟨_, rfl, by decide, by decide⟩
    · exact ⟨_, rfl, by omega, by omega⟩
  refine ⟨s, m + 4, rfl, rfl, s0, Bn.small (by omega) (by omega) (by decide), fun i i0 i1 => ?_⟩
  refine ⟨_, m + 3, rfl, rfl, by show 0 < 6; decide, by show 6 < 1000000; decide, fun v hv => ?_⟩
  obtain ⟨t, rfl, t0, t1⟩ : ∃ s : Int, v = .int s ∧ 0 < s ∧ s ≤ 16 := by
    simp only [List.mem_cons, List.not_mem_nil, or_false] at hv
    rcases hv with rfl | rfl | rfl | rfl | rfl | rfl <;> exact ⟨_, rfl, by decide, by decide⟩
  refine ⟨mo, m + 2, rfl, rfl, by omega, Bn.small (by omega) (by omega) (by decide), fun j j0 j1 => ?_⟩
  refine ⟨_, m + 1, rfl, rfl, by show 0 < 3; decide, by show 3 < 1000000; decide, fun v hv => ?_⟩
  obtain ⟨u, rfl, u0, u1⟩ : ∃ s : Int, v = .int s ∧ 0 < s ∧ s ≤ 1000000000001 := by
    simp only [List.mem_cons, List.not_mem_nil, or_false] at hv
    rcases hv with rfl | rfl | rfl
    · exact ⟨_, rfl, by omega, by omega⟩
    · exact ⟨_, rfl, by omega, by omega⟩
    · exact ⟨_, rfl, by omega, by omega⟩
  obtain ⟨l1, l2, l3, l4, l5⟩ := low_pos (n := 1 + i) (d := u) (by omega) u0
  refine ⟨1 + i, u, rfl, by omega, u0, Bn.small (by omega) (by omega) (by decide), 13, m, rfl, rfl, by decide, Bn.small (by decide) (by decide) (by decide), fun e e0 e1 => ?_⟩
  have bn : Bn 64 (low (1 + i) u).1 := Bn.small (by omega) (by omega) (by decide)
  have bd : Bn 64 (low (1 + i) u).2 := Bn.small (by omega) (by omega) (by decide)
  refine ⟨_, _, _, rfl, Int.le_of_lt l1, bn.mono (by decide), l2, bd.mono (by decide), by omega, by omega, ?_⟩
  obtain ⟨o1, o2, o3⟩ := scl_ok (e := e - 6) l1 l2
  obtain ⟨p1, p2⟩ := scl_B (e := e - 6) l1 l2 bn bd 80 (by omega) (by omega) (by decide) (by decide)
  exact h _ _ o1 p1 o2 p2 o3
section
variable {P : Program} {w : World} {K : Fg} {mg : Str → Option Value} {base : Heap}
theorem d__law_number (T : Tx w K mg) {cdv : Value} {A : Around} {outer : List Env} {s : Shared} {H : Hp} {E : XK} (hr : Room 3 (A.deeper (envOfC "_law_number" (defScope st__law_number) s.heap.objs.size T.f__law_number cdv))) (hgd : (A.deeper (envOfC "_law_number" (defScope st__law_number) s.heap.objs.size T.f__law_number cdv)).guards = some []) :
    PSs (cxOf CX0 P w K mg base N__law_number "_law_number" (defScope st__law_number) T.f__law_number cdv A outer s H E).nox (defBody st__law_number) (upS K b__law_number) :=
  (ss_cons (s_par (i := 2) (j := 3) rfl sc__law_number.nd rfl rfl (by decide) rfl rfl (e_add e_int (e_call (ok__law_draw T) (hr.mono (by decide)) hgd (by rfl) T.g__law_draw T.F__law_draw.kp T.b__law_draw pass0 (a_cons (e_var 0 (pv 0)) (a_cons (e_call (ok__law_pick T) (hr.mono (by decide)) hgd (by rfl) T.g__law_pick T.F__law_pick.kp T.b__law_pick pass0 (a_cons (e_var 0 (pv 0)) (a_cons (e_fz (e_lstL (a_cons e_int (a_cons e_int (a_cons e_int (a_cons (e_var 1 (pv 1)) a_nil)))))) a_nil))) a_nil)))) (e_call (ok__law_pick T) (hr.mono (by decide)) hgd (by rfl) T.g__law_pick T.F__law_pick.kp T.b__law_pick pass0 (a_cons (e_var 0 (pv 0)) (a_cons (e_fz (e_lstL (a_cons e_int (a_cons e_int (a_cons e_int (a_cons e_int (a_cons e_int (a_cons e_int a_nil)))))))) a_nil))))
    (ss_cons (s_set (i := 3) sc__law_number.nd rfl (.inl rfl) (e_call (ok__law_pick T) (hr.mono (by decide)) hgd (by rfl) T.g__law_pick T.F__law_pick.kp T.b__law_pick pass0 (a_cons (e_var 0 (pv 0)) (a_cons (e_fz (e_lstL (a_cons (e_var 3 (pv 3)) (a_cons (e_var 3 (pv 3)) (a_cons (e_add e_int (e_call (ok__law_draw T) (hr.mono (by decide)) hgd (by rfl) T.g__law_draw T.F__law_draw.kp T.b__law_draw pass0 (a_cons (e_var 0 (pv 0)) (a_cons (e_var 1 (pv 1)) a_nil)))) a_nil))))) a_nil))))
    (ss_one (s_ret (e_call (ok__law_scaled T) (hr.mono (by decide)) hgd (by rfl) T.g__law_scaled T.F__law_scaled.kp T.b__law_scaled pass0 (a_cons (e_call (ok__law_low T) (hr.mono (by decide)) hgd (by rfl) T.g__law_low T.F__law_low.kp T.b__law_low pass0 (a_cons (e_var 2 (pv 2)) (a_cons (e_var 3 (pv 3)) a_nil))) (a_cons (e_sub (e_call (ok__law_draw T) (hr.mono (by decide)) hgd (by rfl) T.g__law_draw T.F__law_draw.kp T.b__law_draw pass0 (a_cons (e_var 0 (pv 0)) (a_cons e_int a_nil))) e_int) a_nil)))))))
theorem ok__law_number (T : Tx w K mg) : Fn P w K mg base CX0 4 T.f__law_number T.fd__law_number ["_law_source_here", "_law_most"] (lift K 2 fs__law_number) := fn_data T.F__law_number sc__law_number b__law_number (fun _ _ _ _ _ _ hr hgd => d__law_number T hr hgd) p__law_number
end
--@@ _law_is_int
def b__law_is_int : DS :=
  (dRet (dAndV (dIsi "int" (dVar 0)) (dAndV (dNotV (dIsi "bool" (dVar 0))) (dBin oGe (dVar 0) (dVar 1)))))
def fs__law_is_int : FSp := fun rs fu post => ∃ d m, rs = [.val d, .val (.int m)] ∧ post (.val (.bool (isInt d m))) fu
theorem p__law_is_int (rs : List Rv) (fu : Option Nat) (post : Rr → Option Nat → Prop) (hl : rs.length = 2) (h : fs__law_is_int rs fu post) : b__law_is_int ⟨fun g => post (.val .none) g.fu, fun r g => post r g.fu, fun _ => False, fun _ => False⟩ (ent N__law_is_int rs fu) := by
  obtain ⟨d, m, rfl, h⟩ := h
  cases d <;> (simp only [↓dSeq, ↓dAsg, ↓dSetL, ↓dNext, ↓dIfS, ↓dRet, ↓dRetL, ↓dDrop, ↓dNever, ↓dBrk, ↓dCnt, ↓dAug, ↓dPar, ↓dPar3, ↓dParL, ↓dApp, ↓dExt, ↓dVar, ↓dC, ↓dBin, ↓fI, ↓fI0, ↓fAdd, ↓fEq, ↓fNe, ↓fIn, ↓dTest, ↓dAndT, ↓dOrT, ↓dNotT, ↓dAndV, ↓dOrV, ↓dNotV, ↓dIf, ↓dNeg, ↓dIsN, ↓dChain, ↓dNil, ↓dCons, ↓dTup, ↓dLst, ↓dFz, ↓valsD, ↓dIx, ↓dCall, ↓dCallL, ↓hasSrc, ↓rrv, ↓dN, ↓dT, ↓dTn, ↓dTc, ↓rsv, ↓Gs.set, ↓dFor, ↓dItems, ↓dRange1, ↓dRange2, ↓dZip, ↓dRev, ↓dLc, ↓dCB, ↓cLen, ↓cAll, ↓cTuple, ↓cInt, ↓cInt1, ↓cInt2, ↓dIsi, ↓dBits, ↓dSetS, ↓dCallS, ↓oSub, ↓oAddI, ↓oMul, ↓oDiv, ↓oMod, ↓oShl, ↓oShr, ↓oPow, ↓oAnd, ↓oLt, ↓oLe, ↓oGt, ↓oGe, ↓oAbs, ↓oMax, ↓oMin, ↓dCallK, ↓cRepr, ↓cSum, ↓cMinL, ↓cMaxL, ↓cSorted, ↓cSortedD, ↓cList, ↓dListR, ↓fInD, ↓fMulL, ↓dSl, ↓oNo, ↓oSo, ↓dBy, ↓dD0, ↓dD1, ↓fAddT, ↓dSlT, ↓dParR, ↓dDS, ↓fInDict, ↓dDGet, ↓cLZ, ↓dEnum, ↓dSlS, ↓dListR2, ↓fLtD, ↓dCatL, ↓fMulS, ↓cIntS, ↓cAny, ↓dRange2X, ↓dDI, ↓dGetI, ↓dPar3M, ↓dLenO, ↓dFld, ↓dMeth, ↓dMake, ↓iFld, ↓iSt, ↓iSeq, ↓jSt, ↓jSeq, ↓jFld, ↓jAug, ↓jWhile, ↓dTL, ↓dRangeN, ↓dRevL, ↓dPar3Z, ↓dCount, ↓cLZN, ↓cSortSet, ↓dPar3E, ↓fMulT, ↓cReprX, ↓cStrI, b__law_is_int, ent, svOf, List.map_cons, List.map_nil, List.cons_append, List.nil_append, List.append_nil, List.replicate, List.length_cons, List.length_nil, List.getElem?_cons_zero, List.getElem?_cons_succ, List.getElem?_nil, List.set_cons_zero, List.set_cons_succ, Option.map_some, Option.map_none, Option.isNone_some, Option.isNone_none, forall_const, true_implies, false_implies, and_true, true_and, Bool.true_eq_false, Bool.false_eq_true, reduceCtorEq, noOwn, wipeS, hide, fuN_self, lcD, dYes, Nat.zero_add, Nat.reduceAdd, Nat.reduceLeDiff, Nat.reduceSub, atI_0, atI_1, atI_2, atI_3, atI_4, atI_5, Int.one_mul, eqv_ii, eqv_ss, eqv_num, shaped_int, shaped_num, shaped_none, shaped_ru, flat_str, flat_int, flat_none, List.all_cons, List.all_nil, Bool.and_true, decide_eq_true_eq, decide_eq_false_iff_not, Bool.not_eq_true', Bool.not_eq_false', Decidable.not_not, ↓reduceIte, Bool.false_eq_true, Int.reduceLT, eqv_strs, pick_0, pick_01, pick_10, pick_012, pick_021, pick_102, pick_120, pick_201, pick_210]; simp_all [isInt, isTy])
section
variable {P : Program} {w : World} {K : Fg} {mg : Str → Option Value} {base : Heap}
theorem d__law_is_int (T : Tx w K mg) {cdv : Value} {A : Around} {outer : List Env} {s : Shared} {H : Hp} {E : XK} (hr : Room 0 (A.deeper (envOfC "_law_is_int" (defScope st__law_is_int) s.heap.objs.size T.f__law_is_int cdv))) (hgd : (A.deeper (envOfC "_law_is_int" (defScope st__law_is_int) s.heap.objs.size T.f__law_is_int cdv)).guards = some []) :
    PSs (cxOf CX0 P w K mg base N__law_is_int "_law_is_int" (defScope st__law_is_int) T.f__law_is_int cdv A outer s H E).nox (defBody st__law_is_int) (upS K b__law_is_int) :=
  (ss_one (s_ret (e_and (e_isi kit_int (by rfl) T.n_isinstance (e_var 0 (pv 0)) (c_ty (by rfl) T.n_int (by decide +kernel))) (e_and (e_not (e_isi kit_bool (by rfl) T.n_isinstance (e_var 0 (pv 0)) (c_ty (by rfl) T.n_bool (by decide +kernel)))) (e_one (e_ge (e_var 0 (pv 0)) (e_var 1 (pv 1))))))))
theorem ok__law_is_int (T : Tx w K mg) : Fn P w K mg base CX0 1 T.f__law_is_int T.fd__law_is_int ["_law_thing", "_law_least"] (lift K 2 fs__law_is_int) := fn_data T.F__law_is_int sc__law_is_int b__law_is_int (fun _ _ _ _ _ _ hr hgd => d__law_is_int T hr hgd) p__law_is_int
end
--@@ _law_is_number
def b__law_is_number : DS :=
  (dSeq (dIfS (dOrT (dNotT (dTest (dIsi "tuple" (dVar 0)))) (dOrT (dTest (dBin fNe (dCB cLen (dCons (dVar 0) dNil)) (dC (.int 2)))) (dNotT (dTest (dCB cAll (dCons (dFz (dLc [1] (dItems (dVar 0)) (dN 1) dYes (dCall 2 fs__law_is_int (dCons (dVar 1) (dCons (dC (.int 1)) dNil))))) dNil))))))
    (dRet (dC (.bool false)))
    dNext)
  (dRet (dBin fEq (dCall 2 fs__law_divisor (dCons (dIx (dVar 0) (dC (.int 0))) (dCons (dIx (dVar 0) (dC (.int 1))) dNil))) (dC (.int 1)))))
def fs__law_is_number : FSp := fun rs fu post => ∃ v, rs = [.val v] ∧ post (.val (.bool (isNum v))) fu
theorem p__law_is_number (rs : List Rv) (fu : Option Nat) (post : Rr → Option Nat → Prop) (hl : rs.length = 1) (h : fs__law_is_number rs fu post) : b__law_is_number ⟨fun g => post (.val .none) g.fu, fun r g => post r g.fu, fun _ => False, fun _ => False⟩ (ent N__law_is_number rs fu) := by
  obtain ⟨v, rfl, h⟩ := h
  cases v with
  | tuple xs =>
    simp only [↓dSeq, ↓dAsg, ↓dSetL, ↓dNext, ↓dIfS, ↓dRet, ↓dRetL, ↓dDrop, ↓dNever, ↓dBrk, ↓dCnt, ↓dAug, ↓dPar, ↓dPar3, ↓dParL, ↓dApp, ↓dExt, ↓dVar, ↓dC, ↓dBin, ↓fI, ↓fI0, ↓fAdd, ↓fEq, ↓fNe, ↓fIn, ↓dTest, ↓dAndT, ↓dOrT, ↓dNotT, ↓dAndV, ↓dOrV, ↓dNotV, ↓dIf, ↓dNeg, ↓dIsN, ↓dChain, ↓dNil, ↓dCons, ↓dTup, ↓dLst, ↓dFz, ↓valsD, ↓dIx, ↓dCall, ↓dCallL, ↓hasSrc, ↓rrv, ↓dN, ↓dT, ↓dTn, ↓dTc, ↓rsv, ↓Gs.set, ↓dFor, ↓dItems, ↓dRange1, ↓dRange2, ↓dZip, ↓dRev, ↓dLc, ↓dCB, ↓cLen, ↓cAll, ↓cTuple, ↓cInt, ↓cInt1, ↓cInt2, ↓dIsi, ↓dBits, ↓dSetS, ↓dCallS, ↓oSub, ↓oAddI, ↓oMul, ↓oDiv, ↓oMod, ↓oShl, ↓oShr, ↓oPow, ↓oAnd, ↓oLt, ↓oLe, ↓oGt, ↓oGe, ↓oAbs, ↓oMax, ↓oMin, ↓dCallK, ↓cRepr, ↓cSum, ↓cMinL, ↓cMaxL, ↓cSorted, ↓cSortedD, ↓cList, ↓dListR, ↓fInD, ↓fMulL, ↓dSl, ↓oNo, ↓oSo, ↓dBy, ↓dD0, ↓dD1, ↓fAddT, ↓dSlT, ↓dParR, ↓dDS, ↓fInDict, ↓dDGet, ↓cLZ, ↓dEnum, ↓dSlS, ↓dListR2, ↓fLtD, ↓dCatL, ↓fMulS, ↓cIntS, ↓cAny, ↓dRange2X, ↓dDI, ↓dGetI, ↓dPar3M, ↓dLenO, ↓dFld, ↓dMeth, ↓dMake, ↓iFld, ↓iSt, ↓iSeq, ↓jSt, ↓jSeq, ↓jFld, ↓jAug, ↓jWhile, ↓dTL, ↓dRangeN, ↓dRevL, ↓dPar3Z, ↓dCount, ↓cLZN, ↓cSortSet, ↓dPar3E, ↓fMulT, ↓cReprX, ↓cStrI, b__law_is_number, ent, svOf, List.map_cons, List.map_nil, List.cons_append, List.nil_append, List.append_nil, List.replicate, List.length_cons, List.length_nil, List.getElem?_cons_zero, List.getElem?_cons_succ, List.getElem?_nil, List.set_cons_zero, List.set_cons_succ, Option.map_some, Option.map_none, Option.isNone_some, Option.isNone_none, forall_const, true_implies, false_implies, and_true, true_and, Bool.true_eq_false, Bool.false_eq_true, reduceCtorEq, noOwn, wipeS, hide, fuN_self, lcD, dYes, Nat.zero_add, Nat.reduceAdd, Nat.reduceLeDiff, Nat.reduceSub, atI_0, atI_1, atI_2, atI_3, atI_4, atI_5, Int.one_mul, eqv_ii, eqv_ss, eqv_num, shaped_int, shaped_num, shaped_none, shaped_ru, flat_str, flat_int, flat_none, List.all_cons, List.all_nil, Bool.and_true, decide_eq_true_eq, decide_eq_false_iff_not, Bool.not_eq_true', Bool.not_eq_false', Decidable.not_not, ↓reduceIte, Bool.false_eq_true, Int.reduceLT, eqv_strs, pick_0, pick_01, pick_10, pick_012, pick_021, pick_102, pick_120, pick_201, pick_210]
    refine ⟨fun z => (by simp [isTy] at z), fun _ => ⟨fun z => ?_, fun z => ?_⟩⟩
    · have e : xs.length ≠ 2 := by omega
      rw [isNum_ne e] at h
      exact h
    · have e : xs.length = 2 := by omega
      match xs, e with
      | [x, y], _ =>
        simp only [↓dSeq, ↓dAsg, ↓dSetL, ↓dNext, ↓dIfS, ↓dRet, ↓dRetL, ↓dDrop, ↓dNever, ↓dBrk, ↓dCnt, ↓dAug, ↓dPar, ↓dPar3, ↓dParL, ↓dApp, ↓dExt, ↓dVar, ↓dC, ↓dBin, ↓fI, ↓fI0, ↓fAdd, ↓fEq, ↓fNe, ↓fIn, ↓dTest, ↓dAndT, ↓dOrT, ↓dNotT, ↓dAndV, ↓dOrV, ↓dNotV, ↓dIf, ↓dNeg, ↓dIsN, ↓dChain, ↓dNil, ↓dCons, ↓dTup, ↓dLst, ↓dFz, ↓valsD, ↓dIx, ↓dCall, ↓dCallL, ↓hasSrc, ↓rrv, ↓dN, ↓dT, ↓dTn, ↓dTc, ↓rsv, ↓Gs.set, ↓dFor, ↓dItems, ↓dRange1, ↓dRange2, ↓dZip, ↓dRev, ↓dLc, ↓dCB, ↓cLen, ↓cAll, ↓cTuple, ↓cInt, ↓cInt1, ↓cInt2, ↓dIsi, ↓dBits, ↓dSetS, ↓dCallS, ↓oSub, ↓oAddI, ↓oMul, ↓oDiv, ↓oMod, ↓oShl, ↓oShr, ↓oPow, ↓oAnd, ↓oLt, ↓oLe, ↓oGt, ↓oGe, ↓oAbs, ↓oMax, ↓oMin, ↓dCallK, ↓cRepr, ↓cSum, ↓cMinL, ↓cMaxL, ↓cSorted, ↓cSortedD, ↓cList, ↓dListR, ↓fInD, ↓fMulL, ↓dSl, ↓oNo, ↓oSo, ↓dBy, ↓dD0, ↓dD1, ↓fAddT, ↓dSlT, ↓dParR, ↓dDS, ↓fInDict, ↓dDGet, ↓cLZ, ↓dEnum, ↓dSlS, ↓dListR2, ↓fLtD, ↓dCatL, ↓fMulS, ↓cIntS, ↓cAny, ↓dRange2X, ↓dDI, ↓dGetI, ↓dPar3M, ↓dLenO, ↓dFld, ↓dMeth, ↓dMake, ↓iFld, ↓iSt, ↓iSeq, ↓jSt, ↓jSeq, ↓jFld, ↓jAug, ↓jWhile, ↓dTL, ↓dRangeN, ↓dRevL, ↓dPar3Z, ↓dCount, ↓cLZN, ↓cSortSet, ↓dPar3E, ↓fMulT, ↓cReprX, ↓cStrI, fs__law_is_int, ent, svOf, List.map_cons, List.map_nil, List.cons_append, List.nil_append, List.append_nil, List.replicate, List.length_cons, List.length_nil, List.getElem?_cons_zero, List.getElem?_cons_succ, List.getElem?_nil, List.set_cons_zero, List.set_cons_succ, Option.map_some, Option.map_none, Option.isNone_some, Option.isNone_none, forall_const, true_implies, false_implies, and_true, true_and, Bool.true_eq_false, Bool.false_eq_true, reduceCtorEq, noOwn, wipeS, hide, fuN_self, lcD, dYes, Nat.zero_add, Nat.reduceAdd, Nat.reduceLeDiff, Nat.reduceSub, atI_0, atI_1, atI_2, atI_3, atI_4, atI_5, Int.one_mul, eqv_ii, eqv_ss, eqv_num, shaped_int, shaped_num, shaped_none, shaped_ru, flat_str, flat_int, flat_none, List.all_cons, List.all_nil, Bool.and_true, decide_eq_true_eq, decide_eq_false_iff_not, Bool.not_eq_true', Bool.not_eq_false', Decidable.not_not, ↓reduceIte, Bool.false_eq_true, Int.reduceLT, eqv_strs, pick_0, pick_01, pick_10, pick_012, pick_021, pick_102, pick_120, pick_201, pick_210]
        refine ⟨x, 1, rfl, by decide, y, 1, rfl, by decide, ?_⟩
        simp only [boolsD, Option.map_some]
        simp only [isNum] at h
        refine ⟨fun hf => ?_, fun ht => ?_⟩
        · have : (isInt x 1 && isInt y 1) = false := by
            revert hf
            cases isInt x 1 <;> cases isInt y 1 <;> simp
          rw [this, Bool.false_and] at h
          exact h
        · have h12 : isInt x 1 = true ∧ isInt y 1 = true := by simpa using ht
          obtain ⟨n, rfl, hn⟩ := isInt_some h12.1
          obtain ⟨d, rfl, hd⟩ := isInt_some h12.2
          refine ⟨n, d, rfl, by omega, by omega, rfl, rfl, ?_⟩
          have e : ((PyData.int ((Int.gcd n d : Nat) : Int)).eqv (PyData.int 1)) = decide (Int.gcd n d = 1) := by
            simp only [PyData.eqv]
            rw [Bool.eq_iff_iff]
            simp
            omega
          rw [e]
          rw [h12.1, h12.2] at h
          simpa using h
  | _ => simp only [↓dSeq, ↓dAsg, ↓dSetL, ↓dNext, ↓dIfS, ↓dRet, ↓dRetL, ↓dDrop, ↓dNever, ↓dBrk, ↓dCnt, ↓dAug, ↓dPar, ↓dPar3, ↓dParL, ↓dApp, ↓dExt, ↓dVar, ↓dC, ↓dBin, ↓fI, ↓fI0, ↓fAdd, ↓fEq, ↓fNe, ↓fIn, ↓dTest, ↓dAndT, ↓dOrT, ↓dNotT, ↓dAndV, ↓dOrV, ↓dNotV, ↓dIf, ↓dNeg, ↓dIsN, ↓dChain, ↓dNil, ↓dCons, ↓dTup, ↓dLst, ↓dFz, ↓valsD, ↓dIx, ↓dCall, ↓dCallL, ↓hasSrc, ↓rrv, ↓dN, ↓dT, ↓dTn, ↓dTc, ↓rsv, ↓Gs.set, ↓dFor, ↓dItems, ↓dRange1, ↓dRange2, ↓dZip, ↓dRev, ↓dLc, ↓dCB, ↓cLen, ↓cAll, ↓cTuple, ↓cInt, ↓cInt1, ↓cInt2, ↓dIsi, ↓dBits, ↓dSetS, ↓dCallS, ↓oSub, ↓oAddI, ↓oMul, ↓oDiv, ↓oMod, ↓oShl, ↓oShr, ↓oPow, ↓oAnd, ↓oLt, ↓oLe, ↓oGt, ↓oGe, ↓oAbs, ↓oMax, ↓oMin, ↓dCallK, ↓cRepr, ↓cSum, ↓cMinL, ↓cMaxL, ↓cSorted, ↓cSortedD, ↓cList, ↓dListR, ↓fInD, ↓fMulL, ↓dSl, ↓oNo, ↓oSo, ↓dBy, ↓dD0, ↓dD1, ↓fAddT, ↓dSlT, ↓dParR, ↓dDS, ↓fInDict, ↓dDGet, ↓cLZ, ↓dEnum, ↓dSlS, ↓dListR2, ↓fLtD, ↓dCatL, ↓fMulS, ↓cIntS, ↓cAny, ↓dRange2X, ↓dDI, ↓dGetI, ↓dPar3M, ↓dLenO, ↓dFld, ↓dMeth, ↓dMake, ↓iFld, ↓iSt, ↓iSeq, ↓jSt, ↓jSeq, ↓jFld, ↓jAug, ↓jWhile, ↓dTL, ↓dRangeN, ↓dRevL, ↓dPar3Z, ↓dCount, ↓cLZN, ↓cSortSet, ↓dPar3E, ↓fMulT, ↓cReprX, ↓cStrI, b__law_is_number, ent, svOf, List.map_cons, List.map_nil, List.cons_append, List.nil_append, List.append_nil, List.replicate, List.length_cons, List.length_nil, List.getElem?_cons_zero, List.getElem?_cons_succ, List.getElem?_nil, List.set_cons_zero, List.set_cons_succ, Option.map_some, Option.map_none, Option.isNone_some, Option.isNone_none, forall_const, true_implies, false_implies, and_true, true_and, Bool.true_eq_false, Bool.false_eq_true, reduceCtorEq, noOwn, wipeS, hide, fuN_self, lcD, dYes, Nat.zero_add, Nat.reduceAdd, Nat.reduceLeDiff, Nat.reduceSub, atI_0, atI_1, atI_2, atI_3, atI_4, atI_5, Int.one_mul, eqv_ii, eqv_ss, eqv_num, shaped_int, shaped_num, shaped_none, shaped_ru, flat_str, flat_int, flat_none, List.all_cons, List.all_nil, Bool.and_true, decide_eq_true_eq, decide_eq_false_iff_not, Bool.not_eq_true', Bool.not_eq_false', Decidable.not_not, ↓reduceIte, Bool.false_eq_true, Int.reduceLT, eqv_strs, pick_0, pick_01, pick_10, pick_012, pick_021, pick_102, pick_120, pick_201, pick_210]; simpa [isTy, isNum] using h
section
variable {P : Program} {w : World} {K : Fg} {mg : Str → Option Value} {base : Heap}
theorem d__law_is_number (T : Tx w K mg) {cdv : Value} {A : Around} {outer : List Env} {s : Shared} {H : Hp} {E : XK} (hr : Room 1 (A.deeper (envOfC "_law_is_number" (defScope st__law_is_number) s.heap.objs.size T.f__law_is_number cdv))) (hgd : (A.deeper (envOfC "_law_is_number" (defScope st__law_is_number) s.heap.objs.size T.f__law_is_number cdv)).guards = some []) :
    PSs (cxOf CX0 P w K mg base N__law_is_number "_law_is_number" (defScope st__law_is_number) T.f__law_is_number cdv A outer s H E).nox (defBody st__law_is_number) (upS K b__law_is_number) :=
  (ss_cons (s_if (PW.pt (w_or (t_not (t_val (e_isi kit_tuple (by rfl) T.n_isinstance (e_var 0 (pv 0)) (c_ty (by rfl) T.n_tuple (by decide +kernel))))) (w_or (t_ne hr.units (e_len (by rfl) T.n_len (a_cons (e_var 0 (pv 0)) a_nil)) e_int) (w_or1 (t_not (t_val (e_all rfl (by rfl) T.n_all (a_cons (e_fz (e_lc (own := [("_law_part", 1)]) rfl sc__law_is_number.nd (i_items (e_var 0 (pv 0))) (blkOk_by (own := [("_law_part", 1)]) (N := N__law_is_number) (sc := defScope st__law_is_number) (by decide +kernel)) (fun _ _ _ _ _ => (gw_name rfl (pg_name (i := 1) sc__law_is_number.nd rfl (.inl rfl)) (by decide))) (fun _ _ _ _ _ => ts_yes) (fun _ _ _ _ _ => (e_call (ok__law_is_int T) (hr.mono (by decide)) hgd (by rfl) T.g__law_is_int T.F__law_is_int.kp T.b__law_is_int pass0 (a_cons (e_var 1 (pv 1)) (a_cons e_int a_nil)))))) a_nil)))))))) (ss_one (s_ret e_bl)) ss_nil)
    (ss_one (s_ret (e_eq hr.units (e_call (ok__law_divisor T) (hr.mono (by decide)) hgd (by rfl) T.g__law_divisor T.F__law_divisor.kp T.b__law_divisor pass0 (a_cons (e_ix (e_var 0 (pv 0)) e_int) (a_cons (e_ix (e_var 0 (pv 0)) e_int) a_nil))) e_int))))
theorem ok__law_is_number (T : Tx w K mg) : Fn P w K mg base CX0 2 T.f__law_is_number T.fd__law_is_number ["_law_thing"] (lift K 1 fs__law_is_number) := fn_data T.F__law_is_number sc__law_is_number b__law_is_number (fun _ _ _ _ _ _ hr hgd => d__law_is_number T hr hgd) p__law_is_number
end
--@@ _law_odd
def b__law_odd : DS :=
  (dSeq (dAsg (dFz (dLst (dCons (dC .none) (dCons (dC (.bool true)) (dCons (dC (.bool false)) (dCons (dC (.int 0)) (dCons (dNeg (dC (.int 1))) (dCons (dC (.int 1)) (dCons (dC (.int 7)) (dCons (dC (.int 101)) (dCons (dBin oPow (dC (.int 10)) (dC (.int 30))) (dCons (dC (.str "")) (dCons (dC (.str "a")) (dCons (dC (.str "up")) (dCons (dC (.str "4 up")) (dCons (dTup dNil) (dCons (dFz (dLst dNil)) (dCons dD0 (dCons (dTup (dCons (dC (.int 1)) dNil)) (dCons (dTup (dCons (dC (.int 1)) (dCons (dC (.int 1)) dNil))) (dCons (dFz (dLst (dCons (dC (.int 1)) (dCons (dC (.int 2)) dNil)))) dNil))))))))))))))))))))) (dN 1))
  (dSeq (dAsg (dCall 2 fs__law_pick (dCons (dVar 0) (dCons (dBin fAdd (dVar 1) (dFz (dLst (dCons (dTup (dCons (dC (.int 2)) (dCons (dC (.int 4)) dNil))) (dCons (dTup (dCons (dC (.int 0)) (dCons (dC (.int 1)) dNil))) (dCons (dTup (dCons (dC (.int 1)) (dCons (dC (.int 0)) dNil))) (dCons (dTup (dCons (dNeg (dC (.int 1))) (dCons (dC (.int 2)) dNil))) (dCons (dTup (dCons (dC (.bool true)) (dCons (dC (.int 2)) dNil))) (dCons (dTup (dCons (dC (.int 4)) (dCons (dC (.str "up")) dNil))) (dCons (dTup (dCons (dTup (dCons (dC (.int 4)) (dCons (dC (.str "up")) dNil))) dNil)) (dCons (dTup (dCons (dC (.int 3)) (dCons (dC (.int 5)) (dCons (dC (.int 7)) dNil)))) dNil))))))))))) dNil))) (dN 2))
  (dSeq (dFor (dRange1 (dCall 2 fs__law_pick (dCons (dVar 0) (dCons (dFz (dLst (dCons (dC (.int 0)) (dCons (dC (.int 0)) (dCons (dC (.int 0)) (dCons (dC (.int 1)) (dCons (dC (.int 2)) (dCons (dC (.int 5)) dNil)))))))) dNil)))) (dN 3)
    (dAsg (dCall 2 fs__law_pick (dCons (dVar 0) (dCons (dFz (dLst (dCons (dTup (dCons (dVar 2) dNil)) (dCons (dFz (dLst (dCons (dVar 2) dNil))) (dCons (dD1 "a" 2) (dCons (dTup (dCons (dVar 2) (dCons (dC (.int 1)) dNil))) (dCons (dTup (dCons (dC (.int 1)) (dCons (dVar 2) dNil))) dNil))))))) dNil))) (dN 2)))
  (dRet (dVar 2)))))
/-- a value of any kind, k deep at most -/
structure OddX (k : Nat) (d : Da) : Prop where
  lay : layX d = true
  sh : d.showable = true
  dp : d.depth ≤ 3 + k
  sz : szX d ≤ 10000 + 2000 * k
theorem OddX.X {k : Nat} {d : Da} (h : OddX k d) (hk : k ≤ 40) : ShX d := ⟨h.lay, h.sh, by have := h.dp; omega, by have := h.sz; omega⟩
theorem OddX.mono {k j : Nat} {d : Da} (h : OddX k d) (hk : k ≤ j) : OddX j d := ⟨h.lay, h.sh, by have := h.dp; omega, by have := h.sz; omega⟩
theorem OddX.base {d : Da} (h1 : layX d = true) (h2 : d.showable = true) (h3 : d.depth ≤ 3) (h4 : szX d ≤ 10000) : OddX 0 d := ⟨h1, h2, h3, h4⟩
theorem OddX.wrap {k : Nat} {d v : Da} (h : OddX k d) (hv : v ∈ ([.tuple [d], .list [d], .dict [(.str "a", d)], .tuple [d, .int 1], .tuple [.int 1, d]] : List Da)) : OddX (k + 1) v := by
  obtain ⟨h1, h2, h3, h4⟩ := h
  have a : PyData.strOk (Str.ofString "a") = true := by decide +kernel
  have b : PyData.showable (.str (Str.ofString "a")) = true := by decide +kernel
  have c : (Str.ofString "a").length = 1 := by decide +kernel
  have e : PyData.showable (.int 1) = true := by decide +kernel
  simp only [List.mem_cons, List.not_mem_nil, or_false] at hv
  rcases hv with rfl | rfl | rfl | rfl | rfl
  all_goals
    refine ⟨?_, ?_, ?_, ?_⟩
    · simp [layX, layXs, layKv, h1, a]
    · simp [PyData.showable, PyData.showableAll, PyData.showableKv, h2] <;> first | exact b | exact e | decide +kernel | skip
    · simp [PyData.depth, PyData.depthAll, PyData.depthKv]; omega
    · simp [szX, szXs, szKv, c]; omega
theorem pw1030 : CPowX 10 30 := ⟨by decide, by decide +kernel⟩
theorem odd_base : ∀ d ∈ ([.none, .bool true, .bool false, .int 0, .int (-1), .int 1, .int 7, .int 101, .int (10 ^ Int.toNat 30), .str (Str.ofString ""), .str (Str.ofString "a"), .str (Str.ofString "up"), .str (Str.ofString "4 up"), .tuple [], .list [], .dict [], .tuple [.int 1], .tuple [.int 1, .int 1], .list [.int 1, .int 2], .tuple [.int 2, .int 4], .tuple [.int 0, .int 1], .tuple [.int 1, .int 0], .tuple [.int (-1), .int 2], .tuple [.bool true, .int 2], .tuple [.int 4, .str (Str.ofString "up")], .tuple [.tuple [.int 4, .str (Str.ofString "up")]], .tuple [.int 3, .int 5, .int 7]] : List Da), OddX 0 d := by
  intro d hd
  have a : layX d = true ∧ PyData.showable d = true ∧ PyData.depth d ≤ 3 ∧ szX d ≤ 10000 := by
    simp only [List.mem_cons, List.not_mem_nil, or_false] at hd
    rcases hd with rfl | rfl | rfl | rfl | rfl | rfl | rfl | rfl | rfl | rfl | rfl | rfl | rfl | rfl | rfl | rfl | rfl | rfl | rfl | rfl | rfl | rfl | rfl | rfl | rfl | rfl | rfl
    all_goals exact ⟨by decide +kernel, by decide +kernel, by decide +kernel, by decide +kernel⟩
  exact ⟨a.1, a.2.1, a.2.2.1, a.2.2.2⟩
def fs__law_odd : FSp := fun rs fu post => ∃ m : Nat, rs = [.src] ∧ fu = some (m + 7) ∧ ∀ (d : Da) (m' : Nat), m ≤ m' → OddX 5 d → post (.val d) (some m')
theorem p__law_odd (rs : List Rv) (fu : Option Nat) (post : Rr → Option Nat → Prop) (hl : rs.length = 1) (h : fs__law_odd rs fu post) : b__law_odd ⟨fun g => post (.val .none) g.fu, fun r g => post r g.fu, fun _ => False, fun _ => False⟩ (ent N__law_odd rs fu) := by
  obtain ⟨m, rfl, rfl, h⟩ := h
  have ob := odd_base
  simp only [↓dSeq, ↓dAsg, ↓dSetL, ↓dNext, ↓dIfS, ↓dRet, ↓dRetL, ↓dDrop, ↓dNever, ↓dBrk, ↓dCnt, ↓dAug, ↓dPar, ↓dPar3, ↓dParL, ↓dApp, ↓dExt, ↓dVar, ↓dC, ↓dBin, ↓fI, ↓fI0, ↓fAdd, ↓fEq, ↓fNe, ↓fIn, ↓dTest, ↓dAndT, ↓dOrT, ↓dNotT, ↓dAndV, ↓dOrV, ↓dNotV, ↓dIf, ↓dNeg, ↓dIsN, ↓dChain, ↓dNil, ↓dCons, ↓dTup, ↓dLst, ↓dFz, ↓valsD, ↓dIx, ↓dCall, ↓dCallL, ↓hasSrc, ↓rrv, ↓dN, ↓dT, ↓dTn, ↓dTc, ↓rsv, ↓Gs.set, ↓dFor, ↓dItems, ↓dRange1, ↓dRange2, ↓dZip, ↓dRev, ↓dLc, ↓dCB, ↓cLen, ↓cAll, ↓cTuple, ↓cInt, ↓cInt1, ↓cInt2, ↓dIsi, ↓dBits, ↓dSetS, ↓dCallS, ↓oSub, ↓oAddI, ↓oMul, ↓oDiv, ↓oMod, ↓oShl, ↓oShr, ↓oPow, ↓oAnd, ↓oLt, ↓oLe, ↓oGt, ↓oGe, ↓oAbs, ↓oMax, ↓oMin, ↓dCallK, ↓cRepr, ↓cSum, ↓cMinL, ↓cMaxL, ↓cSorted, ↓cSortedD, ↓cList, ↓dListR, ↓fInD, ↓fMulL, ↓dSl, ↓oNo, ↓oSo, ↓dBy, ↓dD0, ↓dD1, ↓fAddT, ↓dSlT, ↓dParR, ↓dDS, ↓fInDict, ↓dDGet, ↓cLZ, ↓dEnum, ↓dSlS, ↓dListR2, ↓fLtD, ↓dCatL, ↓fMulS, ↓cIntS, ↓cAny, ↓dRange2X, ↓dDI, ↓dGetI, ↓dPar3M, ↓dLenO, ↓dFld, ↓dMeth, ↓dMake, ↓iFld, ↓iSt, ↓iSeq, ↓jSt, ↓jSeq, ↓jFld, ↓jAug, ↓jWhile, ↓dTL, ↓dRangeN, ↓dRevL, ↓dPar3Z, ↓dCount, ↓cLZN, ↓cSortSet, ↓dPar3E, ↓fMulT, ↓cReprX, ↓cStrI, b__law_odd, ent, svOf, List.map_cons, List.map_nil, List.cons_append, List.nil_append, List.append_nil, List.replicate, List.length_cons, List.length_nil, List.getElem?_cons_zero, List.getElem?_cons_succ, List.getElem?_nil, List.set_cons_zero, List.set_cons_succ, Option.map_some, Option.map_none, Option.isNone_some, Option.isNone_none, forall_const, true_implies, false_implies, and_true, true_and, Bool.true_eq_false, Bool.false_eq_true, reduceCtorEq, noOwn, wipeS, hide, fuN_self, lcD, dYes, Nat.zero_add, Nat.reduceAdd, Nat.reduceLeDiff, Nat.reduceSub, atI_0, atI_1, atI_2, atI_3, atI_4, atI_5, Int.one_mul, eqv_ii, eqv_ss, eqv_num, shaped_int, shaped_num, shaped_none, shaped_ru, flat_str, flat_int, flat_none, List.all_cons, List.all_nil, Bool.and_true, decide_eq_true_eq, decide_eq_false_iff_not, Bool.not_eq_true', Bool.not_eq_false', Decidable.not_not, ↓reduceIte, Bool.false_eq_true, Int.reduceLT, eqv_strs, pick_0, pick_01, pick_10, pick_012, pick_021, pick_102, pick_120, pick_201, pick_210]
  refine ⟨pw1030, by decide, _, m + 6, rfl, rfl, by show 0 < 27; decide, by show 27 < 1000000; decide, fun d hd => ?_⟩
  have hd := ob d hd
  refine ⟨_, m + 5, rfl, rfl, by show 0 < 6; decide, by show 6 < 1000000; decide, fun v hv => ?_⟩
  obtain ⟨v, rfl, v0, v1⟩ : ∃ s : Int, v = .int s ∧ 0 ≤ s ∧ s ≤ 5 := by
    simp only [List.mem_cons, List.not_mem_nil, or_false] at hv
    rcases hv with rfl | rfl | rfl | rfl | rfl | rfl <;> exact ⟨_, rfl, by decide, by decide⟩
  clear ob
  simp only [↓dSeq, ↓dAsg, ↓dSetL, ↓dNext, ↓dIfS, ↓dRet, ↓dRetL, ↓dDrop, ↓dNever, ↓dBrk, ↓dCnt, ↓dAug, ↓dPar, ↓dPar3, ↓dParL, ↓dApp, ↓dExt, ↓dVar, ↓dC, ↓dBin, ↓fI, ↓fI0, ↓fAdd, ↓fEq, ↓fNe, ↓fIn, ↓dTest, ↓dAndT, ↓dOrT, ↓dNotT, ↓dAndV, ↓dOrV, ↓dNotV, ↓dIf, ↓dNeg, ↓dIsN, ↓dChain, ↓dNil, ↓dCons, ↓dTup, ↓dLst, ↓dFz, ↓valsD, ↓dIx, ↓dCall, ↓dCallL, ↓hasSrc, ↓rrv, ↓dN, ↓dT, ↓dTn, ↓dTc, ↓rsv, ↓Gs.set, ↓dFor, ↓dItems, ↓dRange1, ↓dRange2, ↓dZip, ↓dRev, ↓dLc, ↓dCB, ↓cLen, ↓cAll, ↓cTuple, ↓cInt, ↓cInt1, ↓cInt2, ↓dIsi, ↓dBits, ↓dSetS, ↓dCallS, ↓oSub, ↓oAddI, ↓oMul, ↓oDiv, ↓oMod, ↓oShl, ↓oShr, ↓oPow, ↓oAnd, ↓oLt, ↓oLe, ↓oGt, ↓oGe, ↓oAbs, ↓oMax, ↓oMin, ↓dCallK, ↓cRepr, ↓cSum, ↓cMinL, ↓cMaxL, ↓cSorted, ↓cSortedD, ↓cList, ↓dListR, ↓fInD, ↓fMulL, ↓dSl, ↓oNo, ↓oSo, ↓dBy, ↓dD0, ↓dD1, ↓fAddT, ↓dSlT, ↓dParR, ↓dDS, ↓fInDict, ↓dDGet, ↓cLZ, ↓dEnum, ↓dSlS, ↓dListR2, ↓fLtD, ↓dCatL, ↓fMulS, ↓cIntS, ↓cAny, ↓dRange2X, ↓dDI, ↓dGetI, ↓dPar3M, ↓dLenO, ↓dFld, ↓dMeth, ↓dMake, ↓iFld, ↓iSt, ↓iSeq, ↓jSt, ↓jSeq, ↓jFld, ↓jAug, ↓jWhile, ↓dTL, ↓dRangeN, ↓dRevL, ↓dPar3Z, ↓dCount, ↓cLZN, ↓cSortSet, ↓dPar3E, ↓fMulT, ↓cReprX, ↓cStrI, ent, svOf, List.map_cons, List.map_nil, List.cons_append, List.nil_append, List.append_nil, List.replicate, List.length_cons, List.length_nil, List.getElem?_cons_zero, List.getElem?_cons_succ, List.getElem?_nil, List.set_cons_zero, List.set_cons_succ, Option.map_some, Option.map_none, Option.isNone_some, Option.isNone_none, forall_const, true_implies, false_implies, and_true, true_and, Bool.true_eq_false, Bool.false_eq_true, reduceCtorEq, noOwn, wipeS, hide, fuN_self, lcD, dYes, Nat.zero_add, Nat.reduceAdd, Nat.reduceLeDiff, Nat.reduceSub, atI_0, atI_1, atI_2, atI_3, atI_4, atI_5, Int.one_mul, eqv_ii, eqv_ss, eqv_num, shaped_int, shaped_num, shaped_none, shaped_ru, flat_str, flat_int, flat_none, List.all_cons, List.all_nil, Bool.and_true, decide_eq_true_eq, decide_eq_false_iff_not, Bool.not_eq_true', Bool.not_eq_false', Decidable.not_not, ↓reduceIte, Bool.false_eq_true, Int.reduceLT, eqv_strs, pick_0, pick_01, pick_10, pick_012, pick_021, pick_102, pick_120, pick_201, pick_210]
  refine ⟨by omega, by omega, forD_ix (k := 0) (fun k g => ∃ (m' : Nat) (L : Option Sv) (d : Da) (t : Option Sv), m + 5 ≤ m' + k ∧ OddX k d ∧ g = ⟨[some .src, L, some (.val d), t], some m', false⟩) (fun k x hx g hg N hN => ?_) (fun g hg => ?_) ⟨m + 5, _, d, _, by omega, hd, rfl⟩⟩
  · obtain ⟨m', L, d, t, hm, ho, rfl⟩ := hg
    have hk : k < 5 := by
      have := (List.getElem?_eq_some_iff.mp hx).1
      rw [rangeD_len] at this
      omega
    obtain ⟨m1, rfl⟩ : ∃ m1, m' = m1 + 1 := ⟨m' - 1, by omega⟩
    have ho : OddX k d := by simpa using ho
    simp only [↓dSeq, ↓dAsg, ↓dSetL, ↓dNext, ↓dIfS, ↓dRet, ↓dRetL, ↓dDrop, ↓dNever, ↓dBrk, ↓dCnt, ↓dAug, ↓dPar, ↓dPar3, ↓dParL, ↓dApp, ↓dExt, ↓dVar, ↓dC, ↓dBin, ↓fI, ↓fI0, ↓fAdd, ↓fEq, ↓fNe, ↓fIn, ↓dTest, ↓dAndT, ↓dOrT, ↓dNotT, ↓dAndV, ↓dOrV, ↓dNotV, ↓dIf, ↓dNeg, ↓dIsN, ↓dChain, ↓dNil, ↓dCons, ↓dTup, ↓dLst, ↓dFz, ↓valsD, ↓dIx, ↓dCall, ↓dCallL, ↓hasSrc, ↓rrv, ↓dN, ↓dT, ↓dTn, ↓dTc, ↓rsv, ↓Gs.set, ↓dFor, ↓dItems, ↓dRange1, ↓dRange2, ↓dZip, ↓dRev, ↓dLc, ↓dCB, ↓cLen, ↓cAll, ↓cTuple, ↓cInt, ↓cInt1, ↓cInt2, ↓dIsi, ↓dBits, ↓dSetS, ↓dCallS, ↓oSub, ↓oAddI, ↓oMul, ↓oDiv, ↓oMod, ↓oShl, ↓oShr, ↓oPow, ↓oAnd, ↓oLt, ↓oLe, ↓oGt, ↓oGe, ↓oAbs, ↓oMax, ↓oMin, ↓dCallK, ↓cRepr, ↓cSum, ↓cMinL, ↓cMaxL, ↓cSorted, ↓cSortedD, ↓cList, ↓dListR, ↓fInD, ↓fMulL, ↓dSl, ↓oNo, ↓oSo, ↓dBy, ↓dD0, ↓dD1, ↓fAddT, ↓dSlT, ↓dParR, ↓dDS, ↓fInDict, ↓dDGet, ↓cLZ, ↓dEnum, ↓dSlS, ↓dListR2, ↓fLtD, ↓dCatL, ↓fMulS, ↓cIntS, ↓cAny, ↓dRange2X, ↓dDI, ↓dGetI, ↓dPar3M, ↓dLenO, ↓dFld, ↓dMeth, ↓dMake, ↓iFld, ↓iSt, ↓iSeq, ↓jSt, ↓jSeq, ↓jFld, ↓jAug, ↓jWhile, ↓dTL, ↓dRangeN, ↓dRevL, ↓dPar3Z, ↓dCount, ↓cLZN, ↓cSortSet, ↓dPar3E, ↓fMulT, ↓cReprX, ↓cStrI, fs__law_pick, ent, svOf, List.map_cons, List.map_nil, List.cons_append, List.nil_append, List.append_nil, List.replicate, List.length_cons, List.length_nil, List.getElem?_cons_zero, List.getElem?_cons_succ, List.getElem?_nil, List.set_cons_zero, List.set_cons_succ, Option.map_some, Option.map_none, Option.isNone_some, Option.isNone_none, forall_const, true_implies, false_implies, and_true, true_and, Bool.true_eq_false, Bool.false_eq_true, reduceCtorEq, noOwn, wipeS, hide, fuN_self, lcD, dYes, Nat.zero_add, Nat.reduceAdd, Nat.reduceLeDiff, Nat.reduceSub, atI_0, atI_1, atI_2, atI_3, atI_4, atI_5, Int.one_mul, eqv_ii, eqv_ss, eqv_num, shaped_int, shaped_num, shaped_none, shaped_ru, flat_str, flat_int, flat_none, List.all_cons, List.all_nil, Bool.and_true, decide_eq_true_eq, decide_eq_false_iff_not, Bool.not_eq_true', Bool.not_eq_false', Decidable.not_not, ↓reduceIte, Bool.false_eq_true, Int.reduceLT, eqv_strs, pick_0, pick_01, pick_10, pick_012, pick_021, pick_102, pick_120, pick_201, pick_210]
    refine ⟨_, m1, rfl, rfl, by show 0 < 5; decide, by show 5 < 1000000; decide, fun v hv => ?_⟩
    exact hN _ ⟨m1, _, v, _, by omega, by simpa using ho.wrap hv, rfl⟩
  · obtain ⟨m', L, d, t, hm, ho, rfl⟩ := hg
    rw [rangeD_len] at hm ho
    simp only [↓dSeq, ↓dAsg, ↓dSetL, ↓dNext, ↓dIfS, ↓dRet, ↓dRetL, ↓dDrop, ↓dNever, ↓dBrk, ↓dCnt, ↓dAug, ↓dPar, ↓dPar3, ↓dParL, ↓dApp, ↓dExt, ↓dVar, ↓dC, ↓dBin, ↓fI, ↓fI0, ↓fAdd, ↓fEq, ↓fNe, ↓fIn, ↓dTest, ↓dAndT, ↓dOrT, ↓dNotT, ↓dAndV, ↓dOrV, ↓dNotV, ↓dIf, ↓dNeg, ↓dIsN, ↓dChain, ↓dNil, ↓dCons, ↓dTup, ↓dLst, ↓dFz, ↓valsD, ↓dIx, ↓dCall, ↓dCallL, ↓hasSrc, ↓rrv, ↓dN, ↓dT, ↓dTn, ↓dTc, ↓rsv, ↓Gs.set, ↓dFor, ↓dItems, ↓dRange1, ↓dRange2, ↓dZip, ↓dRev, ↓dLc, ↓dCB, ↓cLen, ↓cAll, ↓cTuple, ↓cInt, ↓cInt1, ↓cInt2, ↓dIsi, ↓dBits, ↓dSetS, ↓dCallS, ↓oSub, ↓oAddI, ↓oMul, ↓oDiv, ↓oMod, ↓oShl, ↓oShr, ↓oPow, ↓oAnd, ↓oLt, ↓oLe, ↓oGt, ↓oGe, ↓oAbs, ↓oMax, ↓oMin, ↓dCallK, ↓cRepr, ↓cSum, ↓cMinL, ↓cMaxL, ↓cSorted, ↓cSortedD, ↓cList, ↓dListR, ↓fInD, ↓fMulL, ↓dSl, ↓oNo, ↓oSo, ↓dBy, ↓dD0, ↓dD1, ↓fAddT, ↓dSlT, ↓dParR, ↓dDS, ↓fInDict, ↓dDGet, ↓cLZ, ↓dEnum, ↓dSlS, ↓dListR2, ↓fLtD, ↓dCatL, ↓fMulS, ↓cIntS, ↓cAny, ↓dRange2X, ↓dDI, ↓dGetI, ↓dPar3M, ↓dLenO, ↓dFld, ↓dMeth, ↓dMake, ↓iFld, ↓iSt, ↓iSeq, ↓jSt, ↓jSeq, ↓jFld, ↓jAug, ↓jWhile, ↓dTL, ↓dRangeN, ↓dRevL, ↓dPar3Z, ↓dCount, ↓cLZN, ↓cSortSet, ↓dPar3E, ↓fMulT, ↓cReprX, ↓cStrI, ent, svOf, List.map_cons, List.map_nil, List.cons_append, List.nil_append, List.append_nil, List.replicate, List.length_cons, List.length_nil, List.getElem?_cons_zero, List.getElem?_cons_succ, List.getElem?_nil, List.set_cons_zero, List.set_cons_succ, Option.map_some, Option.map_none, Option.isNone_some, Option.isNone_none, forall_const, true_implies, false_implies, and_true, true_and, Bool.true_eq_false, Bool.false_eq_true, reduceCtorEq, noOwn, wipeS, hide, fuN_self, lcD, dYes, Nat.zero_add, Nat.reduceAdd, Nat.reduceLeDiff, Nat.reduceSub, atI_0, atI_1, atI_2, atI_3, atI_4, atI_5, Int.one_mul, eqv_ii, eqv_ss, eqv_num, shaped_int, shaped_num, shaped_none, shaped_ru, flat_str, flat_int, flat_none, List.all_cons, List.all_nil, Bool.and_true, decide_eq_true_eq, decide_eq_false_iff_not, Bool.not_eq_true', Bool.not_eq_false', Decidable.not_not, ↓reduceIte, Bool.false_eq_true, Int.reduceLT, eqv_strs, pick_0, pick_01, pick_10, pick_012, pick_021, pick_102, pick_120, pick_201, pick_210]
    exact h d m' (by omega) (ho.mono (by omega))
section
variable {P : Program} {w : World} {K : Fg} {mg : Str → Option Value} {base : Heap}
theorem d__law_odd (T : Tx w K mg) {cdv : Value} {A : Around} {outer : List Env} {s : Shared} {H : Hp} {E : XK} (hr : Room 2 (A.deeper (envOfC "_law_odd" (defScope st__law_odd) s.heap.objs.size T.f__law_odd cdv))) (hgd : (A.deeper (envOfC "_law_odd" (defScope st__law_odd) s.heap.objs.size T.f__law_odd cdv)).guards = some []) :
    PSs (cxOf CX0 P w K mg base N__law_odd "_law_odd" (defScope st__law_odd) T.f__law_odd cdv A outer s H E).nox (defBody st__law_odd) (upS K b__law_odd) :=
  (ss_cons (s_set (i := 1) sc__law_odd.nd rfl (.inl rfl) (e_fz (e_lstL (a_cons e_non (a_cons e_bl (a_cons e_bl (a_cons e_int (a_cons (e_neg e_int) (a_cons e_int (a_cons e_int (a_cons e_int (a_cons (e_pow e_int e_int) (a_cons e_str (a_cons e_str (a_cons e_str (a_cons e_str (a_cons (e_tup a_nil) (a_cons (e_fz (e_lstL a_nil)) (a_cons e_d0 (a_cons (e_tup (a_cons e_int a_nil)) (a_cons (e_tup (a_cons e_int (a_cons e_int a_nil))) (a_cons (e_fz (e_lstL (a_cons e_int (a_cons e_int a_nil)))) a_nil))))))))))))))))))))))
    (ss_cons (s_set (i := 2) sc__law_odd.nd rfl (.inl rfl) (e_call (ok__law_pick T) (hr.mono (by decide)) hgd (by rfl) T.g__law_pick T.F__law_pick.kp T.b__law_pick pass0 (a_cons (e_var 0 (pv 0)) (a_cons (e_add (e_var 1 (pv 1)) (e_fz (e_lstL (a_cons (e_tup (a_cons e_int (a_cons e_int a_nil))) (a_cons (e_tup (a_cons e_int (a_cons e_int a_nil))) (a_cons (e_tup (a_cons e_int (a_cons e_int a_nil))) (a_cons (e_tup (a_cons (e_neg e_int) (a_cons e_int a_nil))) (a_cons (e_tup (a_cons e_bl (a_cons e_int a_nil))) (a_cons (e_tup (a_cons e_int (a_cons e_str a_nil))) (a_cons (e_tup (a_cons (e_tup (a_cons e_int (a_cons e_str a_nil))) a_nil)) (a_cons (e_tup (a_cons e_int (a_cons e_int (a_cons e_int a_nil)))) a_nil))))))))))) a_nil))))
    (ss_cons (s_for PassesOwn.never rfl (i_range1 (by rfl) T.n_range (e_call (ok__law_pick T) (hr.mono (by decide)) hgd (by rfl) T.g__law_pick T.F__law_pick.kp T.b__law_pick pass0 (a_cons (e_var 0 (pv 0)) (a_cons (e_fz (e_lstL (a_cons e_int (a_cons e_int (a_cons e_int (a_cons e_int (a_cons e_int (a_cons e_int a_nil)))))))) a_nil)))) (g_name (pg_name (i := 3) sc__law_odd.nd rfl (.inl rfl))) (ss_one (s_set (i := 2) sc__law_odd.nd rfl (.inl rfl) (e_call (ok__law_pick T) (hr.mono (by decide)) hgd (by rfl) T.g__law_pick T.F__law_pick.kp T.b__law_pick pass0 (a_cons (e_var 0 (pv 0)) (a_cons (e_fz (e_lstL (a_cons (e_tup (a_cons (e_var 2 (pv 2)) a_nil)) (a_cons (e_fz (e_lstL (a_cons (e_var 2 (pv 2)) a_nil))) (a_cons (e_d1 2 pe_str (pv 2)) (a_cons (e_tup (a_cons (e_var 2 (pv 2)) (a_cons e_int a_nil))) (a_cons (e_tup (a_cons e_int (a_cons (e_var 2 (pv 2)) a_nil))) a_nil))))))) a_nil))))))
    (ss_one (s_ret (e_var 2 (pv 2)))))))
theorem ok__law_odd (T : Tx w K mg) : Fn P w K mg base CX0 3 T.f__law_odd T.fd__law_odd ["_law_source_here"] (lift K 1 fs__law_odd) := fn_data T.F__law_odd sc__law_odd b__law_odd (fun _ _ _ _ _ _ hr hgd => d__law_odd T hr hgd) p__law_odd
end
--@@ _law_right
def b__law_right : DS :=
  (dSeq (dSetL 1 (dLc [2] (dRange1 (dC (.int 40))) (dN 2) dYes (dCall 1 fs__law_odd (dCons (dVar 0) dNil))))
  (dSeq (dFor (dRange1 (dC (.int 20))) (dN 2)
    (dSeq (dAsg (dCall 2 fs__law_number (dCons (dVar 0) (dCons (dBin oPow (dC (.int 10)) (dC (.int 6))) dNil))) (dT 2 (dTc (dN 3) (dTc (dN 4) dTn))))
  (dSeq (dAsg (dBin fAdd (dC (.int 1)) (dCall 2 fs__law_draw (dCons (dVar 0) (dCons (dC (.int 5)) dNil)))) (dN 5))
  (dSeq (dExt 1 (dFz (dLst (dCons (dTup (dCons (dVar 3) (dCons (dVar 4) dNil))) (dCons (dTup (dCons (dBin oMul (dVar 3) (dVar 5)) (dCons (dBin oMul (dVar 4) (dVar 5)) dNil))) (dCons (dTup (dCons (dVar 4) (dCons (dVar 3) dNil))) (dCons (dTup (dCons (dNeg (dVar 3)) (dCons (dVar 4) dNil))) (dCons (dTup (dCons (dVar 3) (dCons (dNeg (dVar 4)) dNil))) (dCons (dFz (dLst (dCons (dVar 3) (dCons (dVar 4) dNil)))) (dCons (dTup (dCons (dVar 3) (dCons (dVar 4) (dCons (dC (.int 1)) dNil)))) (dCons (dTup (dCons (dVar 3) dNil)) (dCons (dTup (dCons (dCB cStrI (dCons (dVar 3) dNil)) (dCons (dVar 4) dNil))) dNil))))))))))))
  (dExt 1 (dFz (dLst (dCons (dTup (dCons (dVar 3) (dCons (dBin fEq (dVar 4) (dC (.int 1))) dNil))) (dCons (dTup (dCons (dC (.int 0)) (dCons (dVar 4) dNil))) (dCons (dTup (dCons (dVar 3) (dCons (dC (.int 0)) dNil))) (dCons (dTup (dCons (dVar 3) (dCons (dC .none) dNil))) (dCons (dTup (dCons (dTup (dCons (dVar 3) (dCons (dVar 4) dNil))) dNil)) dNil))))))))))))
  (dSeq (dFor (dItems (dVar 1)) (dN 6)
    (dSeq (dPar 7 8 (dCB cReprX (dCons (dVar 6) dNil)) (dCB cReprX (dCons (dCall 1 fs__law_is_number (dCons (dVar 6) dNil)) dNil)))
  (dIfS (dOrT (dTest (dBin fNe (dCB cReprX (dCons (dFz (dLst (dCons (dCall 1 fs_is_number (dCons (dVar 6) dNil)) (dCons (dCallK 1 1 [0] fs_is_number (dCons (dVar 6) dNil)) dNil)))) dNil)) (dBin fAdd (dBin fAdd (dBin fAdd (dBin fAdd (dC (.str "[")) (dVar 8)) (dC (.str ", "))) (dVar 8)) (dC (.str "]"))))) (dTest (dBin fNe (dCB cReprX (dCons (dVar 6) dNil)) (dVar 7))))
    (dRet (dC (.bool false)))
    dNext)))
  (dRet (dC (.bool true))))))
def fs__law_right : FSp := fun rs fu post => ∃ m : Nat, rs = [.src] ∧ fu = some m ∧ 900000 ≤ m ∧ ∀ m', post (.val (.bool true)) (some m')
def lrB : DS := (dSeq (dAsg (dCall 2 fs__law_number (dCons (dVar 0) (dCons (dBin oPow (dC (.int 10)) (dC (.int 6))) dNil))) (dT 2 (dTc (dN 3) (dTc (dN 4) dTn))))
  (dSeq (dAsg (dBin fAdd (dC (.int 1)) (dCall 2 fs__law_draw (dCons (dVar 0) (dCons (dC (.int 5)) dNil)))) (dN 5))
  (dSeq (dExt 1 (dFz (dLst (dCons (dTup (dCons (dVar 3) (dCons (dVar 4) dNil))) (dCons (dTup (dCons (dBin oMul (dVar 3) (dVar 5)) (dCons (dBin oMul (dVar 4) (dVar 5)) dNil))) (dCons (dTup (dCons (dVar 4) (dCons (dVar 3) dNil))) (dCons (dTup (dCons (dNeg (dVar 3)) (dCons (dVar 4) dNil))) (dCons (dTup (dCons (dVar 3) (dCons (dNeg (dVar 4)) dNil))) (dCons (dFz (dLst (dCons (dVar 3) (dCons (dVar 4) dNil)))) (dCons (dTup (dCons (dVar 3) (dCons (dVar 4) (dCons (dC (.int 1)) dNil)))) (dCons (dTup (dCons (dVar 3) dNil)) (dCons (dTup (dCons (dCB cStrI (dCons (dVar 3) dNil)) (dCons (dVar 4) dNil))) dNil))))))))))))
  (dExt 1 (dFz (dLst (dCons (dTup (dCons (dVar 3) (dCons (dBin fEq (dVar 4) (dC (.int 1))) dNil))) (dCons (dTup (dCons (dC (.int 0)) (dCons (dVar 4) dNil))) (dCons (dTup (dCons (dVar 3) (dCons (dC (.int 0)) dNil))) (dCons (dTup (dCons (dVar 3) (dCons (dC .none) dNil))) (dCons (dTup (dCons (dTup (dCons (dVar 3) (dCons (dVar 4) dNil))) dNil)) dNil)))))))))))
def lrE : DS := (dSeq (dPar 7 8 (dCB cReprX (dCons (dVar 6) dNil)) (dCB cReprX (dCons (dCall 1 fs__law_is_number (dCons (dVar 6) dNil)) dNil)))
  (dIfS (dOrT (dTest (dBin fNe (dCB cReprX (dCons (dFz (dLst (dCons (dCall 1 fs_is_number (dCons (dVar 6) dNil)) (dCons (dCallK 1 1 [0] fs_is_number (dCons (dVar 6) dNil)) dNil)))) dNil)) (dBin fAdd (dBin fAdd (dBin fAdd (dBin fAdd (dC (.str "[")) (dVar 8)) (dC (.str ", "))) (dVar 8)) (dC (.str "]"))))) (dTest (dBin fNe (dCB cReprX (dCons (dVar 6) dNil)) (dVar 7))))
    (dRet (dC (.bool false)))
    dNext))
/-- a part of a value -/
structure PcX (d : Da) : Prop where
  lay : layX d = true
  sh : d.showable = true
  dp : d.depth ≤ 5
  sz : szX d ≤ 80000
theorem pcx_all : ∀ {xs : List Da}, (∀ x ∈ xs, PcX x) → layXs xs = true ∧ PyData.showableAll xs = true ∧ PyData.depthAll xs ≤ 5 ∧ szXs xs ≤ 80002 * xs.length
  | [], _ => ⟨rfl, by simp [PyData.showableAll], by simp [PyData.depthAll], by simp [szXs]⟩
  | x :: xs, h => by
    obtain ⟨a1, a2, a3, a4⟩ := pcx_all (xs := xs) fun y hy => h y (List.mem_cons_of_mem _ hy)
    obtain ⟨b1, b2, b3, b4⟩ := h x List.mem_cons_self
    refine ⟨by simp [layXs, a1, b1], by simp [PyData.showableAll, a2, b2], ?_, ?_⟩
    · simp only [PyData.depthAll]; omega
    · simp only [szXs, List.length_cons]; omega
theorem PcX.tup {xs : List Da} (h : ∀ x ∈ xs, PcX x) (hl : xs.length ≤ 100) : ShX (.tuple xs) := by
  obtain ⟨a1, a2, a3, a4⟩ := pcx_all h
  refine ⟨by simp [layX, a1], by simp [PyData.showable, a2], ?_, ?_⟩
  · simp only [PyData.depth]; omega
  · simp only [szX]; omega
theorem PcX.lst {xs : List Da} (h : ∀ x ∈ xs, PcX x) (hl : xs.length ≤ 100) : ShX (.list xs) := by
  obtain ⟨a1, a2, a3, a4⟩ := pcx_all h
  refine ⟨by simp [layX, a1], by simp [PyData.showable, a2], ?_, ?_⟩
  · simp only [PyData.depth]; omega
  · simp only [szX]; omega
theorem pcI {i : Int} (h : Bn 100 i) : PcX (.int i) := by
  have e : i.natAbs.log2 < 1920 := by
    rcases Nat.eq_zero_or_pos i.natAbs with z | z
    · rw [z]; decide
    · exact Nat.lt_trans ((Nat.log2_lt (by omega)).mpr h.lt) (by decide)
  exact ⟨rfl, decide_eq_true e, by simp [PyData.depth], by simp [szX]⟩
theorem pcS {i : Int} (h : Bn 100 i) : PcX (.str (toString i : String)) := by
  have c := szX_ok (.int i) rfl (pcI h).sh
  have c : (Str.ofString (toString i)).length ≤ 1921 := c
  refine ⟨cps_ok.mpr (cps_of _), by simp only [PyData.showable], by simp [PyData.depth], ?_⟩
  simp only [szX]
  omega
theorem pc2 {n d : Int} (hn : Bn 100 n) (hd : Bn 100 d) : PcX (.tuple [.int n, .int d]) := by
  have a := pcI hn
  have b := pcI hd
  refine ⟨rfl, ?_, ?_, ?_⟩
  · have := a.sh
    have := b.sh
    simp_all [PyData.showable, PyData.showableAll]
  · simp [PyData.depth, PyData.depthAll]
  · simp [szX, szXs]
theorem pc_parts {n d j : Int} (hn : Bn 80 n) (hd : Bn 80 d) (hj : Bn 10 j) : ∀ x ∈ ([.tuple [.int n, .int d], .tuple [.int (n * j), .int (d * j)], .tuple [.int d, .int n], .tuple [.int (-n), .int d], .tuple [.int n, .int (-d)], .list [.int n, .int d], .tuple [.int n, .int d, .int 1], .tuple [.int n], .tuple [.str (toString n : String), .int d],
    .tuple [.int n, .bool (decide (d = 1))], .tuple [.int 0, .int d], .tuple [.int n, .int 0], .tuple [.int n, .none], .tuple [.tuple [.int n, .int d]]] : List Da), ShX x := by
  have a := hn.mono (m := 100) (by decide)
  have b := hd.mono (m := 100) (by decide)
  have pa := pcI a
  have pb := pcI b
  have p1 := pcI (a.neg)
  have p2 := pcI (b.neg)
  have p3 := pcI ((hn.mul hj).mono (m := 100) (by decide))
  have p4 := pcI ((hd.mul hj).mono (m := 100) (by decide))
  have p5 : PcX (.int 1) := pcI (Bn.small (by decide) (by decide) (by decide))
  have p6 : PcX (.int 0) := pcI (Bn.small (by decide) (by decide) (by decide))
  have p7 := pcS a
  have p8 : PcX .none := ⟨rfl, by simp [PyData.showable], by simp [PyData.depth], by simp [szX]⟩
  have p9 : PcX (.bool (decide (d = 1))) := ⟨rfl, by simp [PyData.showable], by simp [PyData.depth], by simp [szX]⟩
  have p10 := pc2 a b
  intro x hx
  simp only [List.mem_cons, List.not_mem_nil, or_false] at hx
  rcases hx with rfl | rfl | rfl | rfl | rfl | rfl | rfl | rfl | rfl | rfl | rfl | rfl | rfl | rfl
  all_goals first
    | (refine PcX.tup (fun y hy => ?_) (by simp); simp only [List.mem_cons, List.not_mem_nil, or_false] at hy; rcases hy with rfl | rfl | rfl <;> assumption)
    | (refine PcX.tup (fun y hy => ?_) (by simp); simp only [List.mem_cons, List.not_mem_nil, or_false] at hy; rcases hy with rfl | rfl <;> assumption)
    | (refine PcX.tup (fun y hy => ?_) (by simp); simp only [List.mem_cons, List.not_mem_nil, or_false] at hy; rcases hy with rfl <;> assumption)
    | (refine PcX.lst (fun y hy => ?_) (by simp); simp only [List.mem_cons, List.not_mem_nil, or_false] at hy; rcases hy with rfl | rfl <;> assumption)
theorem pw106 : CPowX 10 6 := ⟨by decide, by decide +kernel⟩
theorem p_lrB {D : DEnds} {ds : List Da} {x2 x3 x4 x5 x6 x7 x8 : Option Sv} {m : Nat} (hm : 200 ≤ m) (hl : ds.length ≤ 900) (hd : ∀ x ∈ ds, ShX x) (h : ∀ (es : List Da) (x3 x4 x5 : Option Sv) (m' : Nat), m ≤ m' + 200 → es.length = ds.length + 14 → (∀ x ∈ es, ShX x) → D.nx ⟨[some .src, some (.own es), x2, x3, x4, x5, x6, x7, x8], some m', false⟩) :
    lrB D ⟨[some .src, some (.own ds), x2, x3, x4, x5, x6, x7, x8], some m, false⟩ := by
  obtain ⟨m1, rfl⟩ : ∃ m1, m = m1 + 200 := ⟨m - 200, by omega⟩
  simp only [↓dSeq, ↓dAsg, ↓dSetL, ↓dNext, ↓dIfS, ↓dRet, ↓dRetL, ↓dDrop, ↓dNever, ↓dBrk, ↓dCnt, ↓dAug, ↓dPar, ↓dPar3, ↓dParL, ↓dApp, ↓dExt, ↓dVar, ↓dC, ↓dBin, ↓fI, ↓fI0, ↓fAdd, ↓fEq, ↓fNe, ↓fIn, ↓dTest, ↓dAndT, ↓dOrT, ↓dNotT, ↓dAndV, ↓dOrV, ↓dNotV, ↓dIf, ↓dNeg, ↓dIsN, ↓dChain, ↓dNil, ↓dCons, ↓dTup, ↓dLst, ↓dFz, ↓valsD, ↓dIx, ↓dCall, ↓dCallL, ↓hasSrc, ↓rrv, ↓dN, ↓dT, ↓dTn, ↓dTc, ↓rsv, ↓Gs.set, ↓dFor, ↓dItems, ↓dRange1, ↓dRange2, ↓dZip, ↓dRev, ↓dLc, ↓dCB, ↓cLen, ↓cAll, ↓cTuple, ↓cInt, ↓cInt1, ↓cInt2, ↓dIsi, ↓dBits, ↓dSetS, ↓dCallS, ↓oSub, ↓oAddI, ↓oMul, ↓oDiv, ↓oMod, ↓oShl, ↓oShr, ↓oPow, ↓oAnd, ↓oLt, ↓oLe, ↓oGt, ↓oGe, ↓oAbs, ↓oMax, ↓oMin, ↓dCallK, ↓cRepr, ↓cSum, ↓cMinL, ↓cMaxL, ↓cSorted, ↓cSortedD, ↓cList, ↓dListR, ↓fInD, ↓fMulL, ↓dSl, ↓oNo, ↓oSo, ↓dBy, ↓dD0, ↓dD1, ↓fAddT, ↓dSlT, ↓dParR, ↓dDS, ↓fInDict, ↓dDGet, ↓cLZ, ↓dEnum, ↓dSlS, ↓dListR2, ↓fLtD, ↓dCatL, ↓fMulS, ↓cIntS, ↓cAny, ↓dRange2X, ↓dDI, ↓dGetI, ↓dPar3M, ↓dLenO, ↓dFld, ↓dMeth, ↓dMake, ↓iFld, ↓iSt, ↓iSeq, ↓jSt, ↓jSeq, ↓jFld, ↓jAug, ↓jWhile, ↓dTL, ↓dRangeN, ↓dRevL, ↓dPar3Z, ↓dCount, ↓cLZN, ↓cSortSet, ↓dPar3E, ↓fMulT, ↓cReprX, ↓cStrI, lrB, fs__law_number, fs__law_draw, num, ent, svOf, List.map_cons, List.map_nil, List.cons_append, List.nil_append, List.append_nil, List.replicate, List.length_cons, List.length_nil, List.getElem?_cons_zero, List.getElem?_cons_succ, List.getElem?_nil, List.set_cons_zero, List.set_cons_succ, Option.map_some, Option.map_none, Option.isNone_some, Option.isNone_none, forall_const, true_implies, false_implies, and_true, true_and, Bool.true_eq_false, Bool.false_eq_true, reduceCtorEq, noOwn, wipeS, hide, fuN_self, lcD, dYes, Nat.zero_add, Nat.reduceAdd, Nat.reduceLeDiff, Nat.reduceSub, atI_0, atI_1, atI_2, atI_3, atI_4, atI_5, Int.one_mul, eqv_ii, eqv_ss, eqv_num, shaped_int, shaped_num, shaped_none, shaped_ru, flat_str, flat_int, flat_none, List.all_cons, List.all_nil, Bool.and_true, decide_eq_true_eq, decide_eq_false_iff_not, Bool.not_eq_true', Bool.not_eq_false', Decidable.not_not, ↓reduceIte, Bool.false_eq_true, Int.reduceLT, eqv_strs, pick_0, pick_01, pick_10, pick_012, pick_021, pick_102, pick_120, pick_201, pick_210]
  refine ⟨pw106, _, m1 + 194, rfl, rfl, by decide, by decide, fun n d n0 nB d0 dB _ => ⟨_, m1 + 193, rfl, rfl, by decide, Bn.small (by decide) (by decide) (by decide), fun i i0 i1 => ?_⟩⟩
  have hj : Bn 10 (1 + i) := ⟨by show (1 + i).natAbs < 1024; omega⟩
  have pp := pc_parts nB dB hj
  have ln : n.natAbs.log2 < 1920 := of_decide_eq_true (pcI (nB.mono (m := 100) (by decide))).sh
  refine ⟨⟨_, rfl⟩, mulX 80 10 nB hj (by decide), mulX 80 10 dB hj (by decide), ln, by omega, ⟨_, rfl⟩, by simp; omega, ?_⟩
  refine h _ _ _ _ _ (by omega) (by simp) fun x hx => ?_
  rw [List.append_assoc] at hx
  rcases List.mem_append.mp hx with q | q
  · exact hd x q
  · exact pp x q
theorem shb (b : Bool) : ShX (.bool b) := ⟨rfl, rfl, by simp [PyData.depth], by simp [szX]⟩
theorem p_lrE {D : DEnds} {d : Da} {x0 x1 x2 x3 x4 x5 x7 x8 : Option Sv} {m : Option Nat} {b : Bool} (hd : ShX d) (h : ∀ (x7 x8 : Option Sv), D.nx ⟨[x0, x1, x2, x3, x4, x5, some (.val d), x7, x8], m, b⟩) :
    lrE D ⟨[x0, x1, x2, x3, x4, x5, some (.val d), x7, x8], m, b⟩ := by
  simp only [↓dSeq, ↓dAsg, ↓dSetL, ↓dNext, ↓dIfS, ↓dRet, ↓dRetL, ↓dDrop, ↓dNever, ↓dBrk, ↓dCnt, ↓dAug, ↓dPar, ↓dPar3, ↓dParL, ↓dApp, ↓dExt, ↓dVar, ↓dC, ↓dBin, ↓fI, ↓fI0, ↓fAdd, ↓fEq, ↓fNe, ↓fIn, ↓dTest, ↓dAndT, ↓dOrT, ↓dNotT, ↓dAndV, ↓dOrV, ↓dNotV, ↓dIf, ↓dNeg, ↓dIsN, ↓dChain, ↓dNil, ↓dCons, ↓dTup, ↓dLst, ↓dFz, ↓valsD, ↓dIx, ↓dCall, ↓dCallL, ↓hasSrc, ↓rrv, ↓dN, ↓dT, ↓dTn, ↓dTc, ↓rsv, ↓Gs.set, ↓dFor, ↓dItems, ↓dRange1, ↓dRange2, ↓dZip, ↓dRev, ↓dLc, ↓dCB, ↓cLen, ↓cAll, ↓cTuple, ↓cInt, ↓cInt1, ↓cInt2, ↓dIsi, ↓dBits, ↓dSetS, ↓dCallS, ↓oSub, ↓oAddI, ↓oMul, ↓oDiv, ↓oMod, ↓oShl, ↓oShr, ↓oPow, ↓oAnd, ↓oLt, ↓oLe, ↓oGt, ↓oGe, ↓oAbs, ↓oMax, ↓oMin, ↓dCallK, ↓cRepr, ↓cSum, ↓cMinL, ↓cMaxL, ↓cSorted, ↓cSortedD, ↓cList, ↓dListR, ↓fInD, ↓fMulL, ↓dSl, ↓oNo, ↓oSo, ↓dBy, ↓dD0, ↓dD1, ↓fAddT, ↓dSlT, ↓dParR, ↓dDS, ↓fInDict, ↓dDGet, ↓cLZ, ↓dEnum, ↓dSlS, ↓dListR2, ↓fLtD, ↓dCatL, ↓fMulS, ↓cIntS, ↓cAny, ↓dRange2X, ↓dDI, ↓dGetI, ↓dPar3M, ↓dLenO, ↓dFld, ↓dMeth, ↓dMake, ↓iFld, ↓iSt, ↓iSeq, ↓jSt, ↓jSeq, ↓jFld, ↓jAug, ↓jWhile, ↓dTL, ↓dRangeN, ↓dRevL, ↓dPar3Z, ↓dCount, ↓cLZN, ↓cSortSet, ↓dPar3E, ↓fMulT, ↓cReprX, ↓cStrI, lrE, fs__law_is_number, fs_is_number, ent, svOf, List.map_cons, List.map_nil, List.cons_append, List.nil_append, List.append_nil, List.replicate, List.length_cons, List.length_nil, List.getElem?_cons_zero, List.getElem?_cons_succ, List.getElem?_nil, List.set_cons_zero, List.set_cons_succ, Option.map_some, Option.map_none, Option.isNone_some, Option.isNone_none, forall_const, true_implies, false_implies, and_true, true_and, Bool.true_eq_false, Bool.false_eq_true, reduceCtorEq, noOwn, wipeS, hide, fuN_self, lcD, dYes, Nat.zero_add, Nat.reduceAdd, Nat.reduceLeDiff, Nat.reduceSub, atI_0, atI_1, atI_2, atI_3, atI_4, atI_5, Int.one_mul, eqv_ii, eqv_ss, eqv_num, shaped_int, shaped_num, shaped_none, shaped_ru, flat_str, flat_int, flat_none, List.all_cons, List.all_nil, Bool.and_true, decide_eq_true_eq, decide_eq_false_iff_not, Bool.not_eq_true', Bool.not_eq_false', Decidable.not_not, ↓reduceIte, Bool.false_eq_true, Int.reduceLT, eqv_strs, pick_0, pick_01, pick_10, pick_012, pick_021, pick_102, pick_120, pick_201, pick_210]
  have q2 := shaped_str hd.cps
  have e : (PyData.list [.bool (isNum d), .bool (isNum d)]).shown = Str.ofString "[" ++ (PyData.bool (isNum d)).shown ++ Str.ofString ", " ++ (PyData.bool (isNum d)).shown ++ Str.ofString "]" := by
    cases isNum d <;> decide +kernel
  have w : ShX (.list [.bool (isNum d), .bool (isNum d)]) := ⟨rfl, by simp [PyData.showable, PyData.showableAll], by simp [PyData.depth, PyData.depthAll], by simp [szX, szXs]⟩
  have q3 := shaped_str w.cps
  refine ⟨hd, d, rfl, shb _, d, rfl, d, rfl, w, ?_, ?_, ?_, ?_, q3, by rw [← e]; exact q3, fun z => absurd e z, fun _ => ⟨hd, q2, q2, fun z => absurd trivial z, h _ _⟩⟩
  all_goals cases isNum d <;> decide +kernel
theorem p__law_right (rs : List Rv) (fu : Option Nat) (post : Rr → Option Nat → Prop) (hl : rs.length = 1) (h : fs__law_right rs fu post) : b__law_right ⟨fun g => post (.val .none) g.fu, fun r g => post r g.fu, fun _ => False, fun _ => False⟩ (ent N__law_right rs fu) := by
  obtain ⟨m, rfl, rfl, hm, h⟩ := h
  have lB := @p_lrB
  have lE := @p_lrE
  show (dSeq (dSetL 1 (dLc [2] (dRange1 (dC (.int 40))) (dN 2) dYes (dCall 1 fs__law_odd (dCons (dVar 0) dNil))))
  (dSeq (dFor (dRange1 (dC (.int 20))) (dN 2) lrB)
  (dSeq (dFor (dItems (dVar 1)) (dN 6) lrE)
  (dRet (dC (.bool true)))))) _ _
  generalize lb : lrB = B at lB
  generalize le : lrE = E at lE
  simp only [↓dSeq, ↓dAsg, ↓dSetL, ↓dNext, ↓dIfS, ↓dRet, ↓dRetL, ↓dDrop, ↓dNever, ↓dBrk, ↓dCnt, ↓dAug, ↓dPar, ↓dPar3, ↓dParL, ↓dApp, ↓dExt, ↓dVar, ↓dC, ↓dBin, ↓fI, ↓fI0, ↓fAdd, ↓fEq, ↓fNe, ↓fIn, ↓dTest, ↓dAndT, ↓dOrT, ↓dNotT, ↓dAndV, ↓dOrV, ↓dNotV, ↓dIf, ↓dNeg, ↓dIsN, ↓dChain, ↓dNil, ↓dCons, ↓dTup, ↓dLst, ↓dFz, ↓valsD, ↓dIx, ↓dCall, ↓dCallL, ↓hasSrc, ↓rrv, ↓dN, ↓dT, ↓dTn, ↓dTc, ↓rsv, ↓Gs.set, ↓dFor, ↓dItems, ↓dRange1, ↓dRange2, ↓dZip, ↓dRev, ↓dLc, ↓dCB, ↓cLen, ↓cAll, ↓cTuple, ↓cInt, ↓cInt1, ↓cInt2, ↓dIsi, ↓dBits, ↓dSetS, ↓dCallS, ↓oSub, ↓oAddI, ↓oMul, ↓oDiv, ↓oMod, ↓oShl, ↓oShr, ↓oPow, ↓oAnd, ↓oLt, ↓oLe, ↓oGt, ↓oGe, ↓oAbs, ↓oMax, ↓oMin, ↓dCallK, ↓cRepr, ↓cSum, ↓cMinL, ↓cMaxL, ↓cSorted, ↓cSortedD, ↓cList, ↓dListR, ↓fInD, ↓fMulL, ↓dSl, ↓oNo, ↓oSo, ↓dBy, ↓dD0, ↓dD1, ↓fAddT, ↓dSlT, ↓dParR, ↓dDS, ↓fInDict, ↓dDGet, ↓cLZ, ↓dEnum, ↓dSlS, ↓dListR2, ↓fLtD, ↓dCatL, ↓fMulS, ↓cIntS, ↓cAny, ↓dRange2X, ↓dDI, ↓dGetI, ↓dPar3M, ↓dLenO, ↓dFld, ↓dMeth, ↓dMake, ↓iFld, ↓iSt, ↓iSeq, ↓jSt, ↓jSeq, ↓jFld, ↓jAug, ↓jWhile, ↓dTL, ↓dRangeN, ↓dRevL, ↓dPar3Z, ↓dCount, ↓cLZN, ↓cSortSet, ↓dPar3E, ↓fMulT, ↓cReprX, ↓cStrI, fs__law_odd, ent, svOf, List.map_cons, List.map_nil, List.cons_append, List.nil_append, List.append_nil, List.replicate, List.length_cons, List.length_nil, List.getElem?_cons_zero, List.getElem?_cons_succ, List.getElem?_nil, List.set_cons_zero, List.set_cons_succ, Option.map_some, Option.map_none, Option.isNone_some, Option.isNone_none, forall_const, true_implies, false_implies, and_true, true_and, Bool.true_eq_false, Bool.false_eq_true, reduceCtorEq, noOwn, wipeS, hide, fuN_self, lcD, dYes, Nat.zero_add, Nat.reduceAdd, Nat.reduceLeDiff, Nat.reduceSub, atI_0, atI_1, atI_2, atI_3, atI_4, atI_5, Int.one_mul, eqv_ii, eqv_ss, eqv_num, shaped_int, shaped_num, shaped_none, shaped_ru, flat_str, flat_int, flat_none, List.all_cons, List.all_nil, Bool.and_true, decide_eq_true_eq, decide_eq_false_iff_not, Bool.not_eq_true', Bool.not_eq_false', Decidable.not_not, ↓reduceIte, Bool.false_eq_true, Int.reduceLT, eqv_strs, pick_0, pick_01, pick_10, pick_012, pick_021, pick_102, pick_120, pick_201, pick_210]
  refine ⟨by decide, by decide, lc_drawV ShX 7 (by rw [rangeD_len]; show 7 * 40 ≤ m; omega) (fun x hx m R hR => ?_) (by rw [rangeD_len]; decide) (fun zs m2 zl zp hm2 => ⟨by decide, by decide, ?_⟩)⟩
  · simp only [↓dSeq, ↓dAsg, ↓dSetL, ↓dNext, ↓dIfS, ↓dRet, ↓dRetL, ↓dDrop, ↓dNever, ↓dBrk, ↓dCnt, ↓dAug, ↓dPar, ↓dPar3, ↓dParL, ↓dApp, ↓dExt, ↓dVar, ↓dC, ↓dBin, ↓fI, ↓fI0, ↓fAdd, ↓fEq, ↓fNe, ↓fIn, ↓dTest, ↓dAndT, ↓dOrT, ↓dNotT, ↓dAndV, ↓dOrV, ↓dNotV, ↓dIf, ↓dNeg, ↓dIsN, ↓dChain, ↓dNil, ↓dCons, ↓dTup, ↓dLst, ↓dFz, ↓valsD, ↓dIx, ↓dCall, ↓dCallL, ↓hasSrc, ↓rrv, ↓dN, ↓dT, ↓dTn, ↓dTc, ↓rsv, ↓Gs.set, ↓dFor, ↓dItems, ↓dRange1, ↓dRange2, ↓dZip, ↓dRev, ↓dLc, ↓dCB, ↓cLen, ↓cAll, ↓cTuple, ↓cInt, ↓cInt1, ↓cInt2, ↓dIsi, ↓dBits, ↓dSetS, ↓dCallS, ↓oSub, ↓oAddI, ↓oMul, ↓oDiv, ↓oMod, ↓oShl, ↓oShr, ↓oPow, ↓oAnd, ↓oLt, ↓oLe, ↓oGt, ↓oGe, ↓oAbs, ↓oMax, ↓oMin, ↓dCallK, ↓cRepr, ↓cSum, ↓cMinL, ↓cMaxL, ↓cSorted, ↓cSortedD, ↓cList, ↓dListR, ↓fInD, ↓fMulL, ↓dSl, ↓oNo, ↓oSo, ↓dBy, ↓dD0, ↓dD1, ↓fAddT, ↓dSlT, ↓dParR, ↓dDS, ↓fInDict, ↓dDGet, ↓cLZ, ↓dEnum, ↓dSlS, ↓dListR2, ↓fLtD, ↓dCatL, ↓fMulS, ↓cIntS, ↓cAny, ↓dRange2X, ↓dDI, ↓dGetI, ↓dPar3M, ↓dLenO, ↓dFld, ↓dMeth, ↓dMake, ↓iFld, ↓iSt, ↓iSeq, ↓jSt, ↓jSeq, ↓jFld, ↓jAug, ↓jWhile, ↓dTL, ↓dRangeN, ↓dRevL, ↓dPar3Z, ↓dCount, ↓cLZN, ↓cSortSet, ↓dPar3E, ↓fMulT, ↓cReprX, ↓cStrI, fs__law_odd, ent, svOf, List.map_cons, List.map_nil, List.cons_append, List.nil_append, List.append_nil, List.replicate, List.length_cons, List.length_nil, List.getElem?_cons_zero, List.getElem?_cons_succ, List.getElem?_nil, List.set_cons_zero, List.set_cons_succ, Option.map_some, Option.map_none, Option.isNone_some, Option.isNone_none, forall_const, true_implies, false_implies, and_true, true_and, Bool.true_eq_false, Bool.false_eq_true, reduceCtorEq, noOwn, wipeS, hide, fuN_self, lcD, dYes, Nat.zero_add, Nat.reduceAdd, Nat.reduceLeDiff, Nat.reduceSub, atI_0, atI_1, atI_2, atI_3, atI_4, atI_5, Int.one_mul, eqv_ii, eqv_ss, eqv_num, shaped_int, shaped_num, shaped_none, shaped_ru, flat_str, flat_int, flat_none, List.all_cons, List.all_nil, Bool.and_true, decide_eq_true_eq, decide_eq_false_iff_not, Bool.not_eq_true', Bool.not_eq_false', Decidable.not_not, ↓reduceIte, Bool.false_eq_true, Int.reduceLT, eqv_strs, pick_0, pick_01, pick_10, pick_012, pick_021, pick_102, pick_120, pick_201, pick_210]
    exact ⟨m, rfl, fun d m3 h3 hd => hR _ _ m3 (OddX.X (k := 5) hd (by decide)) rfl h3⟩
  · rw [rangeD_len] at zl hm2
    have zl : zs.length = 40 := zl
    have hm2 : m ≤ m2 + 7 * 40 := hm2
    refine forD_ix (k := 0) (fun k g => ∃ (m' : Nat) (es : List Da) (x2 x3 x4 x5 : Option Sv), m2 ≤ m' + 200 * k ∧ es.length = 40 + 14 * k ∧ (∀ x ∈ es, ShX x) ∧ g = ⟨[some .src, some (.own es), x2, x3, x4, x5, none, none, none], some m', false⟩) (fun k x hx g hg N hN => ?_) (fun g hg => ?_) ⟨m2, zs, _, _, _, _, by omega, by simpa using zl, zp, rfl⟩
    · obtain ⟨m', es, x2, x3, x4, x5, h1, h2, h3, rfl⟩ := hg
      have hk : k < 20 := by
        have := (List.getElem?_eq_some_iff.mp hx).1
        rw [rangeD_len] at this
        exact this
      simp only [↓dSeq, ↓dAsg, ↓dSetL, ↓dNext, ↓dIfS, ↓dRet, ↓dRetL, ↓dDrop, ↓dNever, ↓dBrk, ↓dCnt, ↓dAug, ↓dPar, ↓dPar3, ↓dParL, ↓dApp, ↓dExt, ↓dVar, ↓dC, ↓dBin, ↓fI, ↓fI0, ↓fAdd, ↓fEq, ↓fNe, ↓fIn, ↓dTest, ↓dAndT, ↓dOrT, ↓dNotT, ↓dAndV, ↓dOrV, ↓dNotV, ↓dIf, ↓dNeg, ↓dIsN, ↓dChain, ↓dNil, ↓dCons, ↓dTup, ↓dLst, ↓dFz, ↓valsD, ↓dIx, ↓dCall, ↓dCallL, ↓hasSrc, ↓rrv, ↓dN, ↓dT, ↓dTn, ↓dTc, ↓rsv, ↓Gs.set, ↓dFor, ↓dItems, ↓dRange1, ↓dRange2, ↓dZip, ↓dRev, ↓dLc, ↓dCB, ↓cLen, ↓cAll, ↓cTuple, ↓cInt, ↓cInt1, ↓cInt2, ↓dIsi, ↓dBits, ↓dSetS, ↓dCallS, ↓oSub, ↓oAddI, ↓oMul, ↓oDiv, ↓oMod, ↓oShl, ↓oShr, ↓oPow, ↓oAnd, ↓oLt, ↓oLe, ↓oGt, ↓oGe, ↓oAbs, ↓oMax, ↓oMin, ↓dCallK, ↓cRepr, ↓cSum, ↓cMinL, ↓cMaxL, ↓cSorted, ↓cSortedD, ↓cList, ↓dListR, ↓fInD, ↓fMulL, ↓dSl, ↓oNo, ↓oSo, ↓dBy, ↓dD0, ↓dD1, ↓fAddT, ↓dSlT, ↓dParR, ↓dDS, ↓fInDict, ↓dDGet, ↓cLZ, ↓dEnum, ↓dSlS, ↓dListR2, ↓fLtD, ↓dCatL, ↓fMulS, ↓cIntS, ↓cAny, ↓dRange2X, ↓dDI, ↓dGetI, ↓dPar3M, ↓dLenO, ↓dFld, ↓dMeth, ↓dMake, ↓iFld, ↓iSt, ↓iSeq, ↓jSt, ↓jSeq, ↓jFld, ↓jAug, ↓jWhile, ↓dTL, ↓dRangeN, ↓dRevL, ↓dPar3Z, ↓dCount, ↓cLZN, ↓cSortSet, ↓dPar3E, ↓fMulT, ↓cReprX, ↓cStrI, ent, svOf, List.map_cons, List.map_nil, List.cons_append, List.nil_append, List.append_nil, List.replicate, List.length_cons, List.length_nil, List.getElem?_cons_zero, List.getElem?_cons_succ, List.getElem?_nil, List.set_cons_zero, List.set_cons_succ, Option.map_some, Option.map_none, Option.isNone_some, Option.isNone_none, forall_const, true_implies, false_implies, and_true, true_and, Bool.true_eq_false, Bool.false_eq_true, reduceCtorEq, noOwn, wipeS, hide, fuN_self, lcD, dYes, Nat.zero_add, Nat.reduceAdd, Nat.reduceLeDiff, Nat.reduceSub, atI_0, atI_1, atI_2, atI_3, atI_4, atI_5, Int.one_mul, eqv_ii, eqv_ss, eqv_num, shaped_int, shaped_num, shaped_none, shaped_ru, flat_str, flat_int, flat_none, List.all_cons, List.all_nil, Bool.and_true, decide_eq_true_eq, decide_eq_false_iff_not, Bool.not_eq_true', Bool.not_eq_false', Decidable.not_not, ↓reduceIte, Bool.false_eq_true, Int.reduceLT, eqv_strs, pick_0, pick_01, pick_10, pick_012, pick_021, pick_102, pick_120, pick_201, pick_210]
      exact lB (by omega) (by omega) h3 fun es' y3 y4 y5 m3 q1 q2 q3 => hN _ ⟨m3, es', _, y3, y4, y5, by omega, by omega, q3, rfl⟩
    · obtain ⟨m', es, x2, x3, x4, x5, h1, h2, h3, rfl⟩ := hg
      simp only [↓dSeq, ↓dAsg, ↓dSetL, ↓dNext, ↓dIfS, ↓dRet, ↓dRetL, ↓dDrop, ↓dNever, ↓dBrk, ↓dCnt, ↓dAug, ↓dPar, ↓dPar3, ↓dParL, ↓dApp, ↓dExt, ↓dVar, ↓dC, ↓dBin, ↓fI, ↓fI0, ↓fAdd, ↓fEq, ↓fNe, ↓fIn, ↓dTest, ↓dAndT, ↓dOrT, ↓dNotT, ↓dAndV, ↓dOrV, ↓dNotV, ↓dIf, ↓dNeg, ↓dIsN, ↓dChain, ↓dNil, ↓dCons, ↓dTup, ↓dLst, ↓dFz, ↓valsD, ↓dIx, ↓dCall, ↓dCallL, ↓hasSrc, ↓rrv, ↓dN, ↓dT, ↓dTn, ↓dTc, ↓rsv, ↓Gs.set, ↓dFor, ↓dItems, ↓dRange1, ↓dRange2, ↓dZip, ↓dRev, ↓dLc, ↓dCB, ↓cLen, ↓cAll, ↓cTuple, ↓cInt, ↓cInt1, ↓cInt2, ↓dIsi, ↓dBits, ↓dSetS, ↓dCallS, ↓oSub, ↓oAddI, ↓oMul, ↓oDiv, ↓oMod, ↓oShl, ↓oShr, ↓oPow, ↓oAnd, ↓oLt, ↓oLe, ↓oGt, ↓oGe, ↓oAbs, ↓oMax, ↓oMin, ↓dCallK, ↓cRepr, ↓cSum, ↓cMinL, ↓cMaxL, ↓cSorted, ↓cSortedD, ↓cList, ↓dListR, ↓fInD, ↓fMulL, ↓dSl, ↓oNo, ↓oSo, ↓dBy, ↓dD0, ↓dD1, ↓fAddT, ↓dSlT, ↓dParR, ↓dDS, ↓fInDict, ↓dDGet, ↓cLZ, ↓dEnum, ↓dSlS, ↓dListR2, ↓fLtD, ↓dCatL, ↓fMulS, ↓cIntS, ↓cAny, ↓dRange2X, ↓dDI, ↓dGetI, ↓dPar3M, ↓dLenO, ↓dFld, ↓dMeth, ↓dMake, ↓iFld, ↓iSt, ↓iSeq, ↓jSt, ↓jSeq, ↓jFld, ↓jAug, ↓jWhile, ↓dTL, ↓dRangeN, ↓dRevL, ↓dPar3Z, ↓dCount, ↓cLZN, ↓cSortSet, ↓dPar3E, ↓fMulT, ↓cReprX, ↓cStrI, ent, svOf, List.map_cons, List.map_nil, List.cons_append, List.nil_append, List.append_nil, List.replicate, List.length_cons, List.length_nil, List.getElem?_cons_zero, List.getElem?_cons_succ, List.getElem?_nil, List.set_cons_zero, List.set_cons_succ, Option.map_some, Option.map_none, Option.isNone_some, Option.isNone_none, forall_const, true_implies, false_implies, and_true, true_and, Bool.true_eq_false, Bool.false_eq_true, reduceCtorEq, noOwn, wipeS, hide, fuN_self, lcD, dYes, Nat.zero_add, Nat.reduceAdd, Nat.reduceLeDiff, Nat.reduceSub, atI_0, atI_1, atI_2, atI_3, atI_4, atI_5, Int.one_mul, eqv_ii, eqv_ss, eqv_num, shaped_int, shaped_num, shaped_none, shaped_ru, flat_str, flat_int, flat_none, List.all_cons, List.all_nil, Bool.and_true, decide_eq_true_eq, decide_eq_false_iff_not, Bool.not_eq_true', Bool.not_eq_false', Decidable.not_not, ↓reduceIte, Bool.false_eq_true, Int.reduceLT, eqv_strs, pick_0, pick_01, pick_10, pick_012, pick_021, pick_102, pick_120, pick_201, pick_210]
      refine forD_ix (k := 0) (fun k g => ∃ (x6 x7 x8 : Option Sv), g = ⟨[some .src, some (.val (.list es)), x2, x3, x4, x5, x6, x7, x8], some m', false⟩) (fun k x hx g hg N hN => ?_) (fun g hg => ?_) ⟨_, _, _, rfl⟩
      · obtain ⟨x6, x7, x8, rfl⟩ := hg
        simp only [↓dSeq, ↓dAsg, ↓dSetL, ↓dNext, ↓dIfS, ↓dRet, ↓dRetL, ↓dDrop, ↓dNever, ↓dBrk, ↓dCnt, ↓dAug, ↓dPar, ↓dPar3, ↓dParL, ↓dApp, ↓dExt, ↓dVar, ↓dC, ↓dBin, ↓fI, ↓fI0, ↓fAdd, ↓fEq, ↓fNe, ↓fIn, ↓dTest, ↓dAndT, ↓dOrT, ↓dNotT, ↓dAndV, ↓dOrV, ↓dNotV, ↓dIf, ↓dNeg, ↓dIsN, ↓dChain, ↓dNil, ↓dCons, ↓dTup, ↓dLst, ↓dFz, ↓valsD, ↓dIx, ↓dCall, ↓dCallL, ↓hasSrc, ↓rrv, ↓dN, ↓dT, ↓dTn, ↓dTc, ↓rsv, ↓Gs.set, ↓dFor, ↓dItems, ↓dRange1, ↓dRange2, ↓dZip, ↓dRev, ↓dLc, ↓dCB, ↓cLen, ↓cAll, ↓cTuple, ↓cInt, ↓cInt1, ↓cInt2, ↓dIsi, ↓dBits, ↓dSetS, ↓dCallS, ↓oSub, ↓oAddI, ↓oMul, ↓oDiv, ↓oMod, ↓oShl, ↓oShr, ↓oPow, ↓oAnd, ↓oLt, ↓oLe, ↓oGt, ↓oGe, ↓oAbs, ↓oMax, ↓oMin, ↓dCallK, ↓cRepr, ↓cSum, ↓cMinL, ↓cMaxL, ↓cSorted, ↓cSortedD, ↓cList, ↓dListR, ↓fInD, ↓fMulL, ↓dSl, ↓oNo, ↓oSo, ↓dBy, ↓dD0, ↓dD1, ↓fAddT, ↓dSlT, ↓dParR, ↓dDS, ↓fInDict, ↓dDGet, ↓cLZ, ↓dEnum, ↓dSlS, ↓dListR2, ↓fLtD, ↓dCatL, ↓fMulS, ↓cIntS, ↓cAny, ↓dRange2X, ↓dDI, ↓dGetI, ↓dPar3M, ↓dLenO, ↓dFld, ↓dMeth, ↓dMake, ↓iFld, ↓iSt, ↓iSeq, ↓jSt, ↓jSeq, ↓jFld, ↓jAug, ↓jWhile, ↓dTL, ↓dRangeN, ↓dRevL, ↓dPar3Z, ↓dCount, ↓cLZN, ↓cSortSet, ↓dPar3E, ↓fMulT, ↓cReprX, ↓cStrI, ent, svOf, List.map_cons, List.map_nil, List.cons_append, List.nil_append, List.append_nil, List.replicate, List.length_cons, List.length_nil, List.getElem?_cons_zero, List.getElem?_cons_succ, List.getElem?_nil, List.set_cons_zero, List.set_cons_succ, Option.map_some, Option.map_none, Option.isNone_some, Option.isNone_none, forall_const, true_implies, false_implies, and_true, true_and, Bool.true_eq_false, Bool.false_eq_true, reduceCtorEq, noOwn, wipeS, hide, fuN_self, lcD, dYes, Nat.zero_add, Nat.reduceAdd, Nat.reduceLeDiff, Nat.reduceSub, atI_0, atI_1, atI_2, atI_3, atI_4, atI_5, Int.one_mul, eqv_ii, eqv_ss, eqv_num, shaped_int, shaped_num, shaped_none, shaped_ru, flat_str, flat_int, flat_none, List.all_cons, List.all_nil, Bool.and_true, decide_eq_true_eq, decide_eq_false_iff_not, Bool.not_eq_true', Bool.not_eq_false', Decidable.not_not, ↓reduceIte, Bool.false_eq_true, Int.reduceLT, eqv_strs, pick_0, pick_01, pick_10, pick_012, pick_021, pick_102, pick_120, pick_201, pick_210]
        exact lE (h3 x (List.mem_of_getElem? hx)) fun y7 y8 => hN _ ⟨_, y7, y8, rfl⟩
      · obtain ⟨x6, x7, x8, rfl⟩ := hg
        simp only [↓dSeq, ↓dAsg, ↓dSetL, ↓dNext, ↓dIfS, ↓dRet, ↓dRetL, ↓dDrop, ↓dNever, ↓dBrk, ↓dCnt, ↓dAug, ↓dPar, ↓dPar3, ↓dParL, ↓dApp, ↓dExt, ↓dVar, ↓dC, ↓dBin, ↓fI, ↓fI0, ↓fAdd, ↓fEq, ↓fNe, ↓fIn, ↓dTest, ↓dAndT, ↓dOrT, ↓dNotT, ↓dAndV, ↓dOrV, ↓dNotV, ↓dIf, ↓dNeg, ↓dIsN, ↓dChain, ↓dNil, ↓dCons, ↓dTup, ↓dLst, ↓dFz, ↓valsD, ↓dIx, ↓dCall, ↓dCallL, ↓hasSrc, ↓rrv, ↓dN, ↓dT, ↓dTn, ↓dTc, ↓rsv, ↓Gs.set, ↓dFor, ↓dItems, ↓dRange1, ↓dRange2, ↓dZip, ↓dRev, ↓dLc, ↓dCB, ↓cLen, ↓cAll, ↓cTuple, ↓cInt, ↓cInt1, ↓cInt2, ↓dIsi, ↓dBits, ↓dSetS, ↓dCallS, ↓oSub, ↓oAddI, ↓oMul, ↓oDiv, ↓oMod, ↓oShl, ↓oShr, ↓oPow, ↓oAnd, ↓oLt, ↓oLe, ↓oGt, ↓oGe, ↓oAbs, ↓oMax, ↓oMin, ↓dCallK, ↓cRepr, ↓cSum, ↓cMinL, ↓cMaxL, ↓cSorted, ↓cSortedD, ↓cList, ↓dListR, ↓fInD, ↓fMulL, ↓dSl, ↓oNo, ↓oSo, ↓dBy, ↓dD0, ↓dD1, ↓fAddT, ↓dSlT, ↓dParR, ↓dDS, ↓fInDict, ↓dDGet, ↓cLZ, ↓dEnum, ↓dSlS, ↓dListR2, ↓fLtD, ↓dCatL, ↓fMulS, ↓cIntS, ↓cAny, ↓dRange2X, ↓dDI, ↓dGetI, ↓dPar3M, ↓dLenO, ↓dFld, ↓dMeth, ↓dMake, ↓iFld, ↓iSt, ↓iSeq, ↓jSt, ↓jSeq, ↓jFld, ↓jAug, ↓jWhile, ↓dTL, ↓dRangeN, ↓dRevL, ↓dPar3Z, ↓dCount, ↓cLZN, ↓cSortSet, ↓dPar3E, ↓fMulT, ↓cReprX, ↓cStrI, ent, svOf, List.map_cons, List.map_nil, List.cons_append, List.nil_append, List.append_nil, List.replicate, List.length_cons, List.length_nil, List.getElem?_cons_zero, List.getElem?_cons_succ, List.getElem?_nil, List.set_cons_zero, List.set_cons_succ, Option.map_some, Option.map_none, Option.isNone_some, Option.isNone_none, forall_const, true_implies, false_implies, and_true, true_and, Bool.true_eq_false, Bool.false_eq_true, reduceCtorEq, noOwn, wipeS, hide, fuN_self, lcD, dYes, Nat.zero_add, Nat.reduceAdd, Nat.reduceLeDiff, Nat.reduceSub, atI_0, atI_1, atI_2, atI_3, atI_4, atI_5, Int.one_mul, eqv_ii, eqv_ss, eqv_num, shaped_int, shaped_num, shaped_none, shaped_ru, flat_str, flat_int, flat_none, List.all_cons, List.all_nil, Bool.and_true, decide_eq_true_eq, decide_eq_false_iff_not, Bool.not_eq_true', Bool.not_eq_false', Decidable.not_not, ↓reduceIte, Bool.false_eq_true, Int.reduceLT, eqv_strs, pick_0, pick_01, pick_10, pick_012, pick_021, pick_102, pick_120, pick_201, pick_210]
        exact h m'
section
variable {P : Program} {w : World} {K : Fg} {mg : Str → Option Value} {base : Heap}
theorem d__law_right (T : Tx w K mg) {cdv : Value} {A : Around} {outer : List Env} {s : Shared} {H : Hp} {E : XK} (hr : Room 4 (A.deeper (envOfC "_law_right" (defScope st__law_right) s.heap.objs.size T.f__law_right cdv))) (hgd : (A.deeper (envOfC "_law_right" (defScope st__law_right) s.heap.objs.size T.f__law_right cdv)).guards = some []) :
    PSs (cxOf CX0 P w K mg base N__law_right "_law_right" (defScope st__law_right) T.f__law_right cdv A outer s H E).nox (defBody st__law_right) (upS K b__law_right) :=
  (ss_cons (s_setLc (i := 1) (own := [("_law_turn", 2)]) rfl sc__law_right.nd rfl rfl (sw_true rfl rfl rfl (by decide +kernel)) (i_range1 (by rfl) T.n_range e_int) (blkOk_by (own := [("_law_turn", 2)]) (N := N__law_right) (sc := defScope st__law_right) (by decide +kernel)) (fun _ _ _ _ _ => (gw_name rfl (pg_name (i := 2) sc__law_right.nd rfl (.inl rfl)) (by decide))) (fun _ _ _ _ _ => ts_yes) (fun _ _ _ _ _ => (e_call (ok__law_odd T) (hr.mono (by decide)) hgd (by rfl) T.g__law_odd T.F__law_odd.kp T.b__law_odd pass0 (a_cons (e_var 0 (pv 0)) a_nil))))
    (ss_cons (s_for PassesOwn.never rfl (i_range1 (by rfl) T.n_range e_int) (g_name (pg_name (i := 2) sc__law_right.nd rfl (.inl rfl))) (ss_cons (s_asg (e_call (ok__law_number T) (hr.mono (by decide)) hgd (by rfl) T.g__law_number T.F__law_number.kp T.b__law_number pass0 (a_cons (e_var 0 (pv 0)) (a_cons (e_pow e_int e_int) a_nil))) (g_tup rfl (gs_cons (g_name (pg_name (i := 3) sc__law_right.nd rfl (.inl rfl))) (gs_cons (g_name (pg_name (i := 4) sc__law_right.nd rfl (.inl rfl))) gs_nil))))
    (ss_cons (s_set (i := 5) sc__law_right.nd rfl (.inl rfl) (e_add e_int (e_call (ok__law_draw T) (hr.mono (by decide)) hgd (by rfl) T.g__law_draw T.F__law_draw.kp T.b__law_draw pass0 (a_cons (e_var 0 (pv 0)) (a_cons e_int a_nil)))))
    (ss_cons (s_ext (name := "x") (pv 1) (e_fz (e_lstL (a_cons (e_tup (a_cons (e_var 3 (pv 3)) (a_cons (e_var 4 (pv 4)) a_nil))) (a_cons (e_tup (a_cons (e_mul (e_var 3 (pv 3)) (e_var 5 (pv 5))) (a_cons (e_mul (e_var 4 (pv 4)) (e_var 5 (pv 5))) a_nil))) (a_cons (e_tup (a_cons (e_var 4 (pv 4)) (a_cons (e_var 3 (pv 3)) a_nil))) (a_cons (e_tup (a_cons (e_neg (e_var 3 (pv 3))) (a_cons (e_var 4 (pv 4)) a_nil))) (a_cons (e_tup (a_cons (e_var 3 (pv 3)) (a_cons (e_neg (e_var 4 (pv 4))) a_nil))) (a_cons (e_fz (e_lstL (a_cons (e_var 3 (pv 3)) (a_cons (e_var 4 (pv 4)) a_nil)))) (a_cons (e_tup (a_cons (e_var 3 (pv 3)) (a_cons (e_var 4 (pv 4)) (a_cons e_int a_nil)))) (a_cons (e_tup (a_cons (e_var 3 (pv 3)) a_nil)) (a_cons (e_tup (a_cons (e_strI (by rfl) T.n_str (a_cons (e_var 3 (pv 3)) a_nil)) (a_cons (e_var 4 (pv 4)) a_nil))) a_nil))))))))))) (fun h => pe_bm PySem.F.plainAttrs_list PySem.F.slot_list_extend PySem.F.type_list_extend mt_extend (pv 1) h))
    (ss_one (s_ext (name := "x") (pv 1) (e_fz (e_lstL (a_cons (e_tup (a_cons (e_var 3 (pv 3)) (a_cons (e_eq hr.units (e_var 4 (pv 4)) e_int) a_nil))) (a_cons (e_tup (a_cons e_int (a_cons (e_var 4 (pv 4)) a_nil))) (a_cons (e_tup (a_cons (e_var 3 (pv 3)) (a_cons e_int a_nil))) (a_cons (e_tup (a_cons (e_var 3 (pv 3)) (a_cons e_non a_nil))) (a_cons (e_tup (a_cons (e_tup (a_cons (e_var 3 (pv 3)) (a_cons (e_var 4 (pv 4)) a_nil))) a_nil)) a_nil))))))) (fun h => pe_bm PySem.F.plainAttrs_list PySem.F.slot_list_extend PySem.F.type_list_extend mt_extend (pv 1) h)))))))
    (ss_cons (s_for PassesOwn.never rfl (i_items (e_var 1 (pv 1))) (g_name (pg_name (i := 6) sc__law_right.nd rfl (.inl rfl))) (ss_cons (s_par (i := 7) (j := 8) rfl sc__law_right.nd rfl rfl (by decide) rfl rfl (e_reprX hr hgd (by rfl) T.n_repr (a_cons (e_var 6 (pv 6)) a_nil)) (e_reprX hr hgd (by rfl) T.n_repr (a_cons (e_call (ok__law_is_number T) (hr.mono (by decide)) hgd (by rfl) T.g__law_is_number T.F__law_is_number.kp T.b__law_is_number pass0 (a_cons (e_var 6 (pv 6)) a_nil)) a_nil)))
    (ss_one (s_if (PW.pt (w_or (t_ne hr.units (e_reprX hr hgd (by rfl) T.n_repr (a_cons (e_fz (e_lstL (a_cons (e_call (ok_is_number T) (hr.mono (by decide)) hgd (by rfl) T.g_is_number T.F_is_number.kp T.b_is_number pass0 (a_cons (e_var 6 (pv 6)) a_nil)) (a_cons (e_callK (ok_is_number T) (hr.mono (by decide)) hgd (by rfl) T.g_is_number T.F_is_number.kp (kb_of T.F_is_number (ks := ["value"]) (perm := [0]) fun _ _ _ _ _ _ ws hl => match ws, hl with | [_], _ => rfl) pass0 (k_cons (e_var 6 (pv 6)) k_nil)) a_nil)))) a_nil)) (e_add (e_add (e_add (e_add e_str (e_var 8 (pv 8))) e_str) (e_var 8 (pv 8))) e_str)) (w_or1 (t_ne hr.units (e_reprX hr hgd (by rfl) T.n_repr (a_cons (e_var 6 (pv 6)) a_nil)) (e_var 7 (pv 7)))))) (ss_one (s_ret e_bl)) ss_nil))))
    (ss_one (s_ret e_bl)))))
theorem ok__law_right (T : Tx w K mg) : Fn P w K mg base CX0 5 T.f__law_right T.fd__law_right ["_law_source_here"] (lift K 1 fs__law_right) := fn_data T.F__law_right sc__law_right b__law_right (fun _ _ _ _ _ _ hr hgd => d__law_right T hr hgd) p__law_right
end
--@@ law
def b_law : DS :=
  (dRet (dCB cAll (dCons (dFz (dLc [1] (dRange1 (dCB oMax (dCons (dC (.int 1)) (dCons (dCB oMin (dCons (dCB cLen (dCons (dVar 0) dNil)) (dCons (dC (.int 3)) dNil))) dNil)))) (dN 1) dYes (dCallS 1 1000000 fs__law_right (dCallL 2 fs__law_source (dCons (dVar 0) (dCons (dVar 1) dNil))) []))) dNil)))
def fs_law : FSp := fun rs fu post => ∃ ns : List Int, rs = [.scr ns] ∧ post (.val (.bool true)) fu
theorem p_law (rs : List Rv) (fu : Option Nat) (post : Rr → Option Nat → Prop) (hl : rs.length = 1) (h : fs_law rs fu post) : b_law ⟨fun g => post (.val .none) g.fu, fun r g => post r g.fu, fun _ => False, fun _ => False⟩ (ent N_law rs fu) := by
  obtain ⟨ns, rfl, h⟩ := h
  simp only [↓dSeq, ↓dAsg, ↓dSetL, ↓dNext, ↓dIfS, ↓dRet, ↓dRetL, ↓dDrop, ↓dNever, ↓dBrk, ↓dCnt, ↓dAug, ↓dPar, ↓dPar3, ↓dParL, ↓dApp, ↓dExt, ↓dVar, ↓dC, ↓dBin, ↓fI, ↓fI0, ↓fAdd, ↓fEq, ↓fNe, ↓fIn, ↓dTest, ↓dAndT, ↓dOrT, ↓dNotT, ↓dAndV, ↓dOrV, ↓dNotV, ↓dIf, ↓dNeg, ↓dIsN, ↓dChain, ↓dNil, ↓dCons, ↓dTup, ↓dLst, ↓dFz, ↓valsD, ↓dIx, ↓dCall, ↓dCallL, ↓hasSrc, ↓rrv, ↓dN, ↓dT, ↓dTn, ↓dTc, ↓rsv, ↓Gs.set, ↓dFor, ↓dItems, ↓dRange1, ↓dRange2, ↓dZip, ↓dRev, ↓dLc, ↓dCB, ↓cLen, ↓cAll, ↓cTuple, ↓cInt, ↓cInt1, ↓cInt2, ↓dIsi, ↓dBits, ↓dSetS, ↓dCallS, ↓oSub, ↓oAddI, ↓oMul, ↓oDiv, ↓oMod, ↓oShl, ↓oShr, ↓oPow, ↓oAnd, ↓oLt, ↓oLe, ↓oGt, ↓oGe, ↓oAbs, ↓oMax, ↓oMin, ↓dCallK, ↓cRepr, ↓cSum, ↓cMinL, ↓cMaxL, ↓cSorted, ↓cSortedD, ↓cList, ↓dListR, ↓fInD, ↓fMulL, ↓dSl, ↓oNo, ↓oSo, ↓dBy, ↓dD0, ↓dD1, ↓fAddT, ↓dSlT, ↓dParR, ↓dDS, ↓fInDict, ↓dDGet, ↓cLZ, ↓dEnum, ↓dSlS, ↓dListR2, ↓fLtD, ↓dCatL, ↓fMulS, ↓cIntS, ↓cAny, ↓dRange2X, ↓dDI, ↓dGetI, ↓dPar3M, ↓dLenO, ↓dFld, ↓dMeth, ↓dMake, ↓iFld, ↓iSt, ↓iSeq, ↓jSt, ↓jSeq, ↓jFld, ↓jAug, ↓jWhile, ↓dTL, ↓dRangeN, ↓dRevL, ↓dPar3Z, ↓dCount, ↓cLZN, ↓cSortSet, ↓dPar3E, ↓fMulT, ↓cReprX, ↓cStrI, b_law, ent, svOf, List.map_cons, List.map_nil, List.cons_append, List.nil_append, List.append_nil, List.replicate, List.length_cons, List.length_nil, List.getElem?_cons_zero, List.getElem?_cons_succ, List.getElem?_nil, List.set_cons_zero, List.set_cons_succ, Option.map_some, Option.map_none, Option.isNone_some, Option.isNone_none, forall_const, true_implies, false_implies, and_true, true_and, Bool.true_eq_false, Bool.false_eq_true, reduceCtorEq, noOwn, wipeS, hide, fuN_self, lcD, dYes, Nat.zero_add, Nat.reduceAdd, Nat.reduceLeDiff, Nat.reduceSub, atI_0, atI_1, atI_2, atI_3, atI_4, atI_5, Int.one_mul, eqv_ii, eqv_ss, eqv_num, shaped_int, shaped_num, shaped_none, shaped_ru, flat_str, flat_int, flat_none, List.all_cons, List.all_nil, Bool.and_true, decide_eq_true_eq, decide_eq_false_iff_not, Bool.not_eq_true', Bool.not_eq_false', Decidable.not_not, ↓reduceIte, Bool.false_eq_true, Int.reduceLT, eqv_strs, pick_0, pick_01, pick_10, pick_012, pick_021, pick_102, pick_120, pick_201, pick_210]
  generalize hj : (if (if (3 : Int) < _ then _ else _) > (1 : Int) then _ else _) = j
  have j0 : j ≤ 3 ∧ 0 ≤ j := by subst hj; split <;> (try split) <;> omega
  refine ⟨by omega, by omega, lc_map (fun _ => .bool true) (fun x hx R hR => ?_) ?_ ?_⟩
  · obtain ⟨i, rfl, i0, i1⟩ := rangeD_mem hx
    simp only [↓dSeq, ↓dAsg, ↓dSetL, ↓dNext, ↓dIfS, ↓dRet, ↓dRetL, ↓dDrop, ↓dNever, ↓dBrk, ↓dCnt, ↓dAug, ↓dPar, ↓dPar3, ↓dParL, ↓dApp, ↓dExt, ↓dVar, ↓dC, ↓dBin, ↓fI, ↓fI0, ↓fAdd, ↓fEq, ↓fNe, ↓fIn, ↓dTest, ↓dAndT, ↓dOrT, ↓dNotT, ↓dAndV, ↓dOrV, ↓dNotV, ↓dIf, ↓dNeg, ↓dIsN, ↓dChain, ↓dNil, ↓dCons, ↓dTup, ↓dLst, ↓dFz, ↓valsD, ↓dIx, ↓dCall, ↓dCallL, ↓hasSrc, ↓rrv, ↓dN, ↓dT, ↓dTn, ↓dTc, ↓rsv, ↓Gs.set, ↓dFor, ↓dItems, ↓dRange1, ↓dRange2, ↓dZip, ↓dRev, ↓dLc, ↓dCB, ↓cLen, ↓cAll, ↓cTuple, ↓cInt, ↓cInt1, ↓cInt2, ↓dIsi, ↓dBits, ↓dSetS, ↓dCallS, ↓oSub, ↓oAddI, ↓oMul, ↓oDiv, ↓oMod, ↓oShl, ↓oShr, ↓oPow, ↓oAnd, ↓oLt, ↓oLe, ↓oGt, ↓oGe, ↓oAbs, ↓oMax, ↓oMin, ↓dCallK, ↓cRepr, ↓cSum, ↓cMinL, ↓cMaxL, ↓cSorted, ↓cSortedD, ↓cList, ↓dListR, ↓fInD, ↓fMulL, ↓dSl, ↓oNo, ↓oSo, ↓dBy, ↓dD0, ↓dD1, ↓fAddT, ↓dSlT, ↓dParR, ↓dDS, ↓fInDict, ↓dDGet, ↓cLZ, ↓dEnum, ↓dSlS, ↓dListR2, ↓fLtD, ↓dCatL, ↓fMulS, ↓cIntS, ↓cAny, ↓dRange2X, ↓dDI, ↓dGetI, ↓dPar3M, ↓dLenO, ↓dFld, ↓dMeth, ↓dMake, ↓iFld, ↓iSt, ↓iSeq, ↓jSt, ↓jSeq, ↓jFld, ↓jAug, ↓jWhile, ↓dTL, ↓dRangeN, ↓dRevL, ↓dPar3Z, ↓dCount, ↓cLZN, ↓cSortSet, ↓dPar3E, ↓fMulT, ↓cReprX, ↓cStrI, fs__law_source, fs__law_right, ent, svOf, List.map_cons, List.map_nil, List.cons_append, List.nil_append, List.append_nil, List.replicate, List.length_cons, List.length_nil, List.getElem?_cons_zero, List.getElem?_cons_succ, List.getElem?_nil, List.set_cons_zero, List.set_cons_succ, Option.map_some, Option.map_none, Option.isNone_some, Option.isNone_none, forall_const, true_implies, false_implies, and_true, true_and, Bool.true_eq_false, Bool.false_eq_true, reduceCtorEq, noOwn, wipeS, hide, fuN_self, lcD, dYes, Nat.zero_add, Nat.reduceAdd, Nat.reduceLeDiff, Nat.reduceSub, atI_0, atI_1, atI_2, atI_3, atI_4, atI_5, Int.one_mul, eqv_ii, eqv_ss, eqv_num, shaped_int, shaped_num, shaped_none, shaped_ru, flat_str, flat_int, flat_none, List.all_cons, List.all_nil, Bool.and_true, decide_eq_true_eq, decide_eq_false_iff_not, Bool.not_eq_true', Bool.not_eq_false', Decidable.not_not, ↓reduceIte, Bool.false_eq_true, Int.reduceLT, eqv_strs, pick_0, pick_01, pick_10, pick_012, pick_021, pick_102, pick_120, pick_201, pick_210]
    exact ⟨ns, i, rfl, i0, by omega, fun x y hx0 hx hy0 hy => ⟨⟨x, y, 0, rfl, hx0, hx, hy0, hy, by decide, by decide⟩, 1000000, rfl, (by decide), hR _ rfl⟩⟩
  · simp [rangeD]; omega
  · rw [List.nil_append, boolsD_true]
    simp only [all_true]
    exact h
theorem law_true (ns : List Int) (hn : ns.length ≤ 63) : fs_law [.scr ns] none fun r _ => r = .val (.bool true) := ⟨ns, rfl, rfl⟩
section
variable {P : Program} {w : World} {K : Fg} {mg : Str → Option Value} {base : Heap}
theorem d_law (T : Tx w K mg) {cdv : Value} {A : Around} {outer : List Env} {s : Shared} {H : Hp} {E : XK} (hr : Room 5 (A.deeper (envOfC "law" (defScope st_law) s.heap.objs.size T.f_law cdv))) (hgd : (A.deeper (envOfC "law" (defScope st_law) s.heap.objs.size T.f_law cdv)).guards = some []) :
    PSs (cxOf CX0 P w K mg base N_law "law" (defScope st_law) T.f_law cdv A outer s H E).nox (defBody st_law) (upS K b_law) :=
  (ss_one (s_ret (e_all rfl (by rfl) T.n_all (a_cons (e_fz (e_lc (own := [("_law_k", 1)]) rfl sc_law.nd (i_range1 (by rfl) T.n_range (e_max rfl (by rfl) T.n_max (a_cons e_int (a_cons (e_min rfl (by rfl) T.n_min (a_cons (e_len (by rfl) T.n_len (a_cons (e_var 0 (pv 0)) a_nil)) (a_cons e_int a_nil))) a_nil)))) (blkOk_by (own := [("_law_k", 1)]) (N := N_law) (sc := defScope st_law) (by decide +kernel)) (fun _ _ _ _ _ => (gw_name rfl (pg_name (i := 1) sc_law.nd rfl (.inl rfl)) (by decide))) (fun _ _ _ _ _ => ts_yes) (fun _ _ _ _ _ => (e_callS 1000000 (ok__law_right T) (hr.mono (by decide)) hgd (by rfl) T.g__law_right T.F__law_right.kp T.b__law_right pass0 (e_callL (ok__law_source T) (hr.mono (by decide)) hgd (by rfl) T.g__law_source T.F__law_source.kp T.b__law_source pass0 (a_cons (e_var 0 (pv 0)) (a_cons (e_var 1 (pv 1)) a_nil))) as_nil (fun _ _ _ => .nil))))) a_nil))))
theorem ok_law (T : Tx w K mg) : Fn P w K mg base CX0 6 T.f_law T.fd_law ["_law_script"] (lift K 1 fs_law) := fn_data T.F_law sc_law b_law (fun _ _ _ _ _ _ hr hgd => d_law T hr hgd) p_law
end
def mkTx {w : World} {K : Fg} {h : Heap} {mg : Str → Option Value} (X : K.In h) (G : h.Ns mainGlobals mg)  {f0 : Addr} {od0 an0 : Option Addr} {sl0 : Array (Option Value)} {oc0 kV0 dc0 pm0 cd0 ct0 : Value} {f1 : Addr} {od1 an1 : Option Addr} {sl1 : Array (Option Value)} {oc1 kV1 dc1 pm1 cd1 ct1 : Value} {f2 : Addr} {od2 an2 : Option Addr} {sl2 : Array (Option Value)} {oc2 kV2 dc2 pm2 cd2 ct2 : Value} {f3 : Addr} {od3 an3 : Option Addr} {sl3 : Array (Option Value)} {oc3 kV3 dc3 pm3 cd3 ct3 : Value} {f4 : Addr} {od4 an4 : Option Addr} {sl4 : Array (Option Value)} {oc4 kV4 dc4 pm4 cd4 ct4 : Value} {f5 : Addr} {od5 an5 : Option Addr} {sl5 : Array (Option Value)} {oc5 kV5 dc5 pm5 cd5 ct5 : Value} {f6 : Addr} {od6 an6 : Option Addr} {sl6 : Array (Option Value)} {oc6 kV6 dc6 pm6 cd6 ct6 : Value} {f7 : Addr} {od7 an7 : Option Addr} {sl7 : Array (Option Value)} {oc7 kV7 dc7 pm7 cd7 ct7 : Value} {f8 : Addr} {od8 an8 : Option Addr} {sl8 : Array (Option Value)} {oc8 kV8 dc8 pm8 cd8 ct8 : Value} {f9 : Addr} {od9 an9 : Option Addr} {sl9 : Array (Option Value)} {oc9 kV9 dc9 pm9 cd9 ct9 : Value} {f10 : Addr} {od10 an10 : Option Addr} {sl10 : Array (Option Value)} {oc10 kV10 dc10 pm10 cd10 ct10 : Value} {f11 : Addr} {od11 an11 : Option Addr} {sl11 : Array (Option Value)} {oc11 kV11 dc11 pm11 cd11 ct11 : Value} {f12 : Addr} {od12 an12 : Option Addr} {sl12 : Array (Option Value)} {oc12 kV12 dc12 pm12 cd12 ct12 : Value} {f13 : Addr} {od13 an13 : Option Addr} {sl13 : Array (Option Value)} {oc13 kV13 dc13 pm13 cd13 ct13 : Value} {f14 : Addr} {od14 an14 : Option Addr} {sl14 : Array (Option Value)} {oc14 kV14 dc14 pm14 cd14 ct14 : Value} {tk_PAIR : Tok}
    (a0 : PySem.W.nsIn K mainGlobals "is_int" = some (some (.ref f0)))
    (l0 : K.lookup f0 = some ⟨oc0, od0, .func (PySem.W.fnOf "is_int" "is_int" (defArgs st_is_int) (defBody st_is_int) (defScope st_is_int) .none kV0 dc0 pm0 an0 cd0 ct0), sl0⟩) (c0 : PySem.W.codeIn K cd0 "is_int" = true) (k0 : PySem.W.keepIn K (.ref f0) = true)
    (a1 : PySem.W.nsIn K mainGlobals "common_divisor" = some (some (.ref f1)))
    (l1 : K.lookup f1 = some ⟨oc1, od1, .func (PySem.W.fnOf "common_divisor" "common_divisor" (defArgs st_common_divisor) (defBody st_common_divisor) (defScope st_common_divisor) .none kV1 dc1 pm1 an1 cd1 ct1), sl1⟩) (c1 : PySem.W.codeIn K cd1 "common_divisor" = true) (k1 : PySem.W.keepIn K (.ref f1) = true)
    (a2 : PySem.W.nsIn K mainGlobals "is_number" = some (some (.ref f2)))
    (l2 : K.lookup f2 = some ⟨oc2, od2, .func (PySem.W.fnOf "is_number" "is_number" (defArgs st_is_number) (defBody st_is_number) (defScope st_is_number) .none kV2 dc2 pm2 an2 cd2 ct2), sl2⟩) (c2 : PySem.W.codeIn K cd2 "is_number" = true) (k2 : PySem.W.keepIn K (.ref f2) = true)
    (a3 : PySem.W.nsIn K mainGlobals "_law_source" = some (some (.ref f3)))
    (l3 : K.lookup f3 = some ⟨oc3, od3, .func (PySem.W.fnOf "_law_source" "_law_source" (defArgs st__law_source) (defBody st__law_source) (defScope st__law_source) .none kV3 dc3 pm3 an3 cd3 ct3), sl3⟩) (c3 : PySem.W.codeIn K cd3 "_law_source" = true) (k3 : PySem.W.keepIn K (.ref f3) = true)
    (a4 : PySem.W.nsIn K mainGlobals "_law_draw" = some (some (.ref f4)))
    (l4 : K.lookup f4 = some ⟨oc4, od4, .func (PySem.W.fnOf "_law_draw" "_law_draw" (defArgs st__law_draw) (defBody st__law_draw) (defScope st__law_draw) .none kV4 dc4 pm4 an4 cd4 ct4), sl4⟩) (c4 : PySem.W.codeIn K cd4 "_law_draw" = true) (k4 : PySem.W.keepIn K (.ref f4) = true)
    (a5 : PySem.W.nsIn K mainGlobals "_law_pick" = some (some (.ref f5)))
    (l5 : K.lookup f5 = some ⟨oc5, od5, .func (PySem.W.fnOf "_law_pick" "_law_pick" (defArgs st__law_pick) (defBody st__law_pick) (defScope st__law_pick) .none kV5 dc5 pm5 an5 cd5 ct5), sl5⟩) (c5 : PySem.W.codeIn K cd5 "_law_pick" = true) (k5 : PySem.W.keepIn K (.ref f5) = true)
    (a6 : PySem.W.nsIn K mainGlobals "_law_divisor" = some (some (.ref f6)))
    (l6 : K.lookup f6 = some ⟨oc6, od6, .func (PySem.W.fnOf "_law_divisor" "_law_divisor" (defArgs st__law_divisor) (defBody st__law_divisor) (defScope st__law_divisor) .none kV6 dc6 pm6 an6 cd6 ct6), sl6⟩) (c6 : PySem.W.codeIn K cd6 "_law_divisor" = true) (k6 : PySem.W.keepIn K (.ref f6) = true)
    (a7 : PySem.W.nsIn K mainGlobals "_law_low" = some (some (.ref f7)))
    (l7 : K.lookup f7 = some ⟨oc7, od7, .func (PySem.W.fnOf "_law_low" "_law_low" (defArgs st__law_low) (defBody st__law_low) (defScope st__law_low) .none kV7 dc7 pm7 an7 cd7 ct7), sl7⟩) (c7 : PySem.W.codeIn K cd7 "_law_low" = true) (k7 : PySem.W.keepIn K (.ref f7) = true)
    (a8 : PySem.W.nsIn K mainGlobals "_law_scaled" = some (some (.ref f8)))
    (l8 : K.lookup f8 = some ⟨oc8, od8, .func (PySem.W.fnOf "_law_scaled" "_law_scaled" (defArgs st__law_scaled) (defBody st__law_scaled) (defScope st__law_scaled) .none kV8 dc8 pm8 an8 cd8 ct8), sl8⟩) (c8 : PySem.W.codeIn K cd8 "_law_scaled" = true) (k8 : PySem.W.keepIn K (.ref f8) = true)
    (a9 : PySem.W.nsIn K mainGlobals "_law_number" = some (some (.ref f9)))
    (l9 : K.lookup f9 = some ⟨oc9, od9, .func (PySem.W.fnOf "_law_number" "_law_number" (defArgs st__law_number) (defBody st__law_number) (defScope st__law_number) .none kV9 dc9 pm9 an9 cd9 ct9), sl9⟩) (c9 : PySem.W.codeIn K cd9 "_law_number" = true) (k9 : PySem.W.keepIn K (.ref f9) = true)
    (a10 : PySem.W.nsIn K mainGlobals "_law_is_int" = some (some (.ref f10)))
    (l10 : K.lookup f10 = some ⟨oc10, od10, .func (PySem.W.fnOf "_law_is_int" "_law_is_int" (defArgs st__law_is_int) (defBody st__law_is_int) (defScope st__law_is_int) .none kV10 dc10 pm10 an10 cd10 ct10), sl10⟩) (c10 : PySem.W.codeIn K cd10 "_law_is_int" = true) (k10 : PySem.W.keepIn K (.ref f10) = true)
    (a11 : PySem.W.nsIn K mainGlobals "_law_is_number" = some (some (.ref f11)))
    (l11 : K.lookup f11 = some ⟨oc11, od11, .func (PySem.W.fnOf "_law_is_number" "_law_is_number" (defArgs st__law_is_number) (defBody st__law_is_number) (defScope st__law_is_number) .none kV11 dc11 pm11 an11 cd11 ct11), sl11⟩) (c11 : PySem.W.codeIn K cd11 "_law_is_number" = true) (k11 : PySem.W.keepIn K (.ref f11) = true)
    (a12 : PySem.W.nsIn K mainGlobals "_law_odd" = some (some (.ref f12)))
    (l12 : K.lookup f12 = some ⟨oc12, od12, .func (PySem.W.fnOf "_law_odd" "_law_odd" (defArgs st__law_odd) (defBody st__law_odd) (defScope st__law_odd) .none kV12 dc12 pm12 an12 cd12 ct12), sl12⟩) (c12 : PySem.W.codeIn K cd12 "_law_odd" = true) (k12 : PySem.W.keepIn K (.ref f12) = true)
    (a13 : PySem.W.nsIn K mainGlobals "_law_right" = some (some (.ref f13)))
    (l13 : K.lookup f13 = some ⟨oc13, od13, .func (PySem.W.fnOf "_law_right" "_law_right" (defArgs st__law_right) (defBody st__law_right) (defScope st__law_right) .none kV13 dc13 pm13 an13 cd13 ct13), sl13⟩) (c13 : PySem.W.codeIn K cd13 "_law_right" = true) (k13 : PySem.W.keepIn K (.ref f13) = true)
    (a14 : PySem.W.nsIn K mainGlobals "law" = some (some (.ref f14)))
    (l14 : K.lookup f14 = some ⟨oc14, od14, .func (PySem.W.fnOf "law" "law" (defArgs st_law) (defBody st_law) (defScope st_law) .none kV14 dc14 pm14 an14 cd14 ct14), sl14⟩) (c14 : PySem.W.codeIn K cd14 "law" = true) (k14 : PySem.W.keepIn K (.ref f14) = true)
    (z_abs : PySem.W.nsIn K mainGlobals "abs" = some none)
    (z_all : PySem.W.nsIn K mainGlobals "all" = some none)
    (z_bool : PySem.W.nsIn K mainGlobals "bool" = some none)
    (z_int : PySem.W.nsIn K mainGlobals "int" = some none)
    (z_isinstance : PySem.W.nsIn K mainGlobals "isinstance" = some none)
    (z_len : PySem.W.nsIn K mainGlobals "len" = some none)
    (z_max : PySem.W.nsIn K mainGlobals "max" = some none)
    (z_min : PySem.W.nsIn K mainGlobals "min" = some none)
    (z_range : PySem.W.nsIn K mainGlobals "range" = some none)
    (z_repr : PySem.W.nsIn K mainGlobals "repr" = some none)
    (z_str : PySem.W.nsIn K mainGlobals "str" = some none)
    (z_tuple : PySem.W.nsIn K mainGlobals "tuple" = some none)
    (y_PAIR : PySem.W.nsIn K mainGlobals "PAIR" = some (some (.int 2 tk_PAIR))) : Tx w K mg :=
  { f_is_int := f0, fd_is_int := _, F_is_int := fun_mk (st := st_is_int) l0 c0 k0, b_is_int := (fun_mk (st := st_is_int) l0 c0 k0).binds (ps := ["value", "least"]) fun _ _ _ _ _ _ us hl => match us, hl with | [_, _], _ => rfl,
    g_is_int := PySem.W.mg_of X G a0,
    f_common_divisor := f1, fd_common_divisor := _, F_common_divisor := fun_mk (st := st_common_divisor) l1 c1 k1, b_common_divisor := (fun_mk (st := st_common_divisor) l1 c1 k1).binds (ps := ["one", "other"]) fun _ _ _ _ _ _ us hl => match us, hl with | [_, _], _ => rfl,
    g_common_divisor := PySem.W.mg_of X G a1,
    f_is_number := f2, fd_is_number := _, F_is_number := fun_mk (st := st_is_number) l2 c2 k2, b_is_number := (fun_mk (st := st_is_number) l2 c2 k2).binds (ps := ["value"]) fun _ _ _ _ _ _ us hl => match us, hl with | [_], _ => rfl,
    g_is_number := PySem.W.mg_of X G a2,
    f__law_source := f3, fd__law_source := _, F__law_source := fun_mk (st := st__law_source) l3 c3 k3, b__law_source := (fun_mk (st := st__law_source) l3 c3 k3).binds (ps := ["_law_script", "_law_k"]) fun _ _ _ _ _ _ us hl => match us, hl with | [_, _], _ => rfl,
    g__law_source := PySem.W.mg_of X G a3,
    f__law_draw := f4, fd__law_draw := _, F__law_draw := fun_mk (st := st__law_draw) l4 c4 k4, b__law_draw := (fun_mk (st := st__law_draw) l4 c4 k4).binds (ps := ["_law_source_here", "_law_size"]) fun _ _ _ _ _ _ us hl => match us, hl with | [_, _], _ => rfl,
    g__law_draw := PySem.W.mg_of X G a4,
    f__law_pick := f5, fd__law_pick := _, F__law_pick := fun_mk (st := st__law_pick) l5 c5 k5, b__law_pick := (fun_mk (st := st__law_pick) l5 c5 k5).binds (ps := ["_law_source_here", "_law_some"]) fun _ _ _ _ _ _ us hl => match us, hl with | [_, _], _ => rfl,
    g__law_pick := PySem.W.mg_of X G a5,
    f__law_divisor := f6, fd__law_divisor := _, F__law_divisor := fun_mk (st := st__law_divisor) l6 c6 k6, b__law_divisor := (fun_mk (st := st__law_divisor) l6 c6 k6).binds (ps := ["_law_one", "_law_other"]) fun _ _ _ _ _ _ us hl => match us, hl with | [_, _], _ => rfl,
    g__law_divisor := PySem.W.mg_of X G a6,
    f__law_low := f7, fd__law_low := _, F__law_low := fun_mk (st := st__law_low) l7 c7 k7, b__law_low := (fun_mk (st := st__law_low) l7 c7 k7).binds (ps := ["_law_n", "_law_d"]) fun _ _ _ _ _ _ us hl => match us, hl with | [_, _], _ => rfl,
    g__law_low := PySem.W.mg_of X G a7,
    f__law_scaled := f8, fd__law_scaled := _, F__law_scaled := fun_mk (st := st__law_scaled) l8 c8 k8, b__law_scaled := (fun_mk (st := st__law_scaled) l8 c8 k8).binds (ps := ["_law_number_here", "_law_e"]) fun _ _ _ _ _ _ us hl => match us, hl with | [_, _], _ => rfl,
    g__law_scaled := PySem.W.mg_of X G a8,
    f__law_number := f9, fd__law_number := _, F__law_number := fun_mk (st := st__law_number) l9 c9 k9, b__law_number := (fun_mk (st := st__law_number) l9 c9 k9).binds (ps := ["_law_source_here", "_law_most"]) fun _ _ _ _ _ _ us hl => match us, hl with | [_, _], _ => rfl,
    g__law_number := PySem.W.mg_of X G a9,
    f__law_is_int := f10, fd__law_is_int := _, F__law_is_int := fun_mk (st := st__law_is_int) l10 c10 k10, b__law_is_int := (fun_mk (st := st__law_is_int) l10 c10 k10).binds (ps := ["_law_thing", "_law_least"]) fun _ _ _ _ _ _ us hl => match us, hl with | [_, _], _ => rfl,
    g__law_is_int := PySem.W.mg_of X G a10,
    f__law_is_number := f11, fd__law_is_number := _, F__law_is_number := fun_mk (st := st__law_is_number) l11 c11 k11, b__law_is_number := (fun_mk (st := st__law_is_number) l11 c11 k11).binds (ps := ["_law_thing"]) fun _ _ _ _ _ _ us hl => match us, hl with | [_], _ => rfl,
    g__law_is_number := PySem.W.mg_of X G a11,
    f__law_odd := f12, fd__law_odd := _, F__law_odd := fun_mk (st := st__law_odd) l12 c12 k12, b__law_odd := (fun_mk (st := st__law_odd) l12 c12 k12).binds (ps := ["_law_source_here"]) fun _ _ _ _ _ _ us hl => match us, hl with | [_], _ => rfl,
    g__law_odd := PySem.W.mg_of X G a12,
    f__law_right := f13, fd__law_right := _, F__law_right := fun_mk (st := st__law_right) l13 c13 k13, b__law_right := (fun_mk (st := st__law_right) l13 c13 k13).binds (ps := ["_law_source_here"]) fun _ _ _ _ _ _ us hl => match us, hl with | [_], _ => rfl,
    g__law_right := PySem.W.mg_of X G a13,
    f_law := f14, fd_law := _, F_law := fun_mk (st := st_law) l14 c14 k14, b_law := (fun_mk (st := st_law) l14 c14 k14).binds (ps := ["_law_script"]) fun _ _ _ _ _ _ us hl => match us, hl with | [_], _ => rfl,
    g_law := PySem.W.mg_of X G a14,
    n_abs := PySem.W.mg_none_of X G z_abs,
    n_all := PySem.W.mg_none_of X G z_all,
    n_bool := PySem.W.mg_none_of X G z_bool,
    n_int := PySem.W.mg_none_of X G z_int,
    n_isinstance := PySem.W.mg_none_of X G z_isinstance,
    n_len := PySem.W.mg_none_of X G z_len,
    n_max := PySem.W.mg_none_of X G z_max,
    n_min := PySem.W.mg_none_of X G z_min,
    n_range := PySem.W.mg_none_of X G z_range,
    n_repr := PySem.W.mg_none_of X G z_repr,
    n_str := PySem.W.mg_none_of X G z_str,
    n_tuple := PySem.W.mg_none_of X G z_tuple,
    u_PAIR := _, w_PAIR := .int 2, c_PAIR := PySem.W.mg_of X G y_PAIR, v_PAIR := ⟨_, rfl⟩, r_PAIR := fun _ => .int _ }
theorem all_mk {l : PySem.W.OpenLaw} {w : World} {K : Fg} {h : Heap} {mg : Str → Option Value} {fa : Addr} (X : K.In h) (G : h.Ns mainGlobals mg) (hfa : mg "law" = some (.ref fa))  {f0 : Addr} {od0 an0 : Option Addr} {sl0 : Array (Option Value)} {oc0 kV0 dc0 pm0 cd0 ct0 : Value} {f1 : Addr} {od1 an1 : Option Addr} {sl1 : Array (Option Value)} {oc1 kV1 dc1 pm1 cd1 ct1 : Value} {f2 : Addr} {od2 an2 : Option Addr} {sl2 : Array (Option Value)} {oc2 kV2 dc2 pm2 cd2 ct2 : Value} {f3 : Addr} {od3 an3 : Option Addr} {sl3 : Array (Option Value)} {oc3 kV3 dc3 pm3 cd3 ct3 : Value} {f4 : Addr} {od4 an4 : Option Addr} {sl4 : Array (Option Value)} {oc4 kV4 dc4 pm4 cd4 ct4 : Value} {f5 : Addr} {od5 an5 : Option Addr} {sl5 : Array (Option Value)} {oc5 kV5 dc5 pm5 cd5 ct5 : Value} {f6 : Addr} {od6 an6 : Option Addr} {sl6 : Array (Option Value)} {oc6 kV6 dc6 pm6 cd6 ct6 : Value} {f7 : Addr} {od7 an7 : Option Addr} {sl7 : Array (Option Value)} {oc7 kV7 dc7 pm7 cd7 ct7 : Value} {f8 : Addr} {od8 an8 : Option Addr} {sl8 : Array (Option Value)} {oc8 kV8 dc8 pm8 cd8 ct8 : Value} {f9 : Addr} {od9 an9 : Option Addr} {sl9 : Array (Option Value)} {oc9 kV9 dc9 pm9 cd9 ct9 : Value} {f10 : Addr} {od10 an10 : Option Addr} {sl10 : Array (Option Value)} {oc10 kV10 dc10 pm10 cd10 ct10 : Value} {f11 : Addr} {od11 an11 : Option Addr} {sl11 : Array (Option Value)} {oc11 kV11 dc11 pm11 cd11 ct11 : Value} {f12 : Addr} {od12 an12 : Option Addr} {sl12 : Array (Option Value)} {oc12 kV12 dc12 pm12 cd12 ct12 : Value} {f13 : Addr} {od13 an13 : Option Addr} {sl13 : Array (Option Value)} {oc13 kV13 dc13 pm13 cd13 ct13 : Value} {f14 : Addr} {od14 an14 : Option Addr} {sl14 : Array (Option Value)} {oc14 kV14 dc14 pm14 cd14 ct14 : Value} {tk_PAIR : Tok}
    (a0 : PySem.W.nsIn K mainGlobals "is_int" = some (some (.ref f0)))
    (l0 : K.lookup f0 = some ⟨oc0, od0, .func (PySem.W.fnOf "is_int" "is_int" (defArgs st_is_int) (defBody st_is_int) (defScope st_is_int) .none kV0 dc0 pm0 an0 cd0 ct0), sl0⟩) (c0 : PySem.W.codeIn K cd0 "is_int" = true) (k0 : PySem.W.keepIn K (.ref f0) = true)
    (a1 : PySem.W.nsIn K mainGlobals "common_divisor" = some (some (.ref f1)))
    (l1 : K.lookup f1 = some ⟨oc1, od1, .func (PySem.W.fnOf "common_divisor" "common_divisor" (defArgs st_common_divisor) (defBody st_common_divisor) (defScope st_common_divisor) .none kV1 dc1 pm1 an1 cd1 ct1), sl1⟩) (c1 : PySem.W.codeIn K cd1 "common_divisor" = true) (k1 : PySem.W.keepIn K (.ref f1) = true)
    (a2 : PySem.W.nsIn K mainGlobals "is_number" = some (some (.ref f2)))
    (l2 : K.lookup f2 = some ⟨oc2, od2, .func (PySem.W.fnOf "is_number" "is_number" (defArgs st_is_number) (defBody st_is_number) (defScope st_is_number) .none kV2 dc2 pm2 an2 cd2 ct2), sl2⟩) (c2 : PySem.W.codeIn K cd2 "is_number" = true) (k2 : PySem.W.keepIn K (.ref f2) = true)
    (a3 : PySem.W.nsIn K mainGlobals "_law_source" = some (some (.ref f3)))
    (l3 : K.lookup f3 = some ⟨oc3, od3, .func (PySem.W.fnOf "_law_source" "_law_source" (defArgs st__law_source) (defBody st__law_source) (defScope st__law_source) .none kV3 dc3 pm3 an3 cd3 ct3), sl3⟩) (c3 : PySem.W.codeIn K cd3 "_law_source" = true) (k3 : PySem.W.keepIn K (.ref f3) = true)
    (a4 : PySem.W.nsIn K mainGlobals "_law_draw" = some (some (.ref f4)))
    (l4 : K.lookup f4 = some ⟨oc4, od4, .func (PySem.W.fnOf "_law_draw" "_law_draw" (defArgs st__law_draw) (defBody st__law_draw) (defScope st__law_draw) .none kV4 dc4 pm4 an4 cd4 ct4), sl4⟩) (c4 : PySem.W.codeIn K cd4 "_law_draw" = true) (k4 : PySem.W.keepIn K (.ref f4) = true)
    (a5 : PySem.W.nsIn K mainGlobals "_law_pick" = some (some (.ref f5)))
    (l5 : K.lookup f5 = some ⟨oc5, od5, .func (PySem.W.fnOf "_law_pick" "_law_pick" (defArgs st__law_pick) (defBody st__law_pick) (defScope st__law_pick) .none kV5 dc5 pm5 an5 cd5 ct5), sl5⟩) (c5 : PySem.W.codeIn K cd5 "_law_pick" = true) (k5 : PySem.W.keepIn K (.ref f5) = true)
    (a6 : PySem.W.nsIn K mainGlobals "_law_divisor" = some (some (.ref f6)))
    (l6 : K.lookup f6 = some ⟨oc6, od6, .func (PySem.W.fnOf "_law_divisor" "_law_divisor" (defArgs st__law_divisor) (defBody st__law_divisor) (defScope st__law_divisor) .none kV6 dc6 pm6 an6 cd6 ct6), sl6⟩) (c6 : PySem.W.codeIn K cd6 "_law_divisor" = true) (k6 : PySem.W.keepIn K (.ref f6) = true)
    (a7 : PySem.W.nsIn K mainGlobals "_law_low" = some (some (.ref f7)))
    (l7 : K.lookup f7 = some ⟨oc7, od7, .func (PySem.W.fnOf "_law_low" "_law_low" (defArgs st__law_low) (defBody st__law_low) (defScope st__law_low) .none kV7 dc7 pm7 an7 cd7 ct7), sl7⟩) (c7 : PySem.W.codeIn K cd7 "_law_low" = true) (k7 : PySem.W.keepIn K (.ref f7) = true)
    (a8 : PySem.W.nsIn K mainGlobals "_law_scaled" = some (some (.ref f8)))
    (l8 : K.lookup f8 = some ⟨oc8, od8, .func (PySem.W.fnOf "_law_scaled" "_law_scaled" (defArgs st__law_scaled) (defBody st__law_scaled) (defScope st__law_scaled) .none kV8 dc8 pm8 an8 cd8 ct8), sl8⟩) (c8 : PySem.W.codeIn K cd8 "_law_scaled" = true) (k8 : PySem.W.keepIn K (.ref f8) = true)
    (a9 : PySem.W.nsIn K mainGlobals "_law_number" = some (some (.ref f9)))
    (l9 : K.lookup f9 = some ⟨oc9, od9, .func (PySem.W.fnOf "_law_number" "_law_number" (defArgs st__law_number) (defBody st__law_number) (defScope st__law_number) .none kV9 dc9 pm9 an9 cd9 ct9), sl9⟩) (c9 : PySem.W.codeIn K cd9 "_law_number" = true) (k9 : PySem.W.keepIn K (.ref f9) = true)
    (a10 : PySem.W.nsIn K mainGlobals "_law_is_int" = some (some (.ref f10)))
    (l10 : K.lookup f10 = some ⟨oc10, od10, .func (PySem.W.fnOf "_law_is_int" "_law_is_int" (defArgs st__law_is_int) (defBody st__law_is_int) (defScope st__law_is_int) .none kV10 dc10 pm10 an10 cd10 ct10), sl10⟩) (c10 : PySem.W.codeIn K cd10 "_law_is_int" = true) (k10 : PySem.W.keepIn K (.ref f10) = true)
    (a11 : PySem.W.nsIn K mainGlobals "_law_is_number" = some (some (.ref f11)))
    (l11 : K.lookup f11 = some ⟨oc11, od11, .func (PySem.W.fnOf "_law_is_number" "_law_is_number" (defArgs st__law_is_number) (defBody st__law_is_number) (defScope st__law_is_number) .none kV11 dc11 pm11 an11 cd11 ct11), sl11⟩) (c11 : PySem.W.codeIn K cd11 "_law_is_number" = true) (k11 : PySem.W.keepIn K (.ref f11) = true)
    (a12 : PySem.W.nsIn K mainGlobals "_law_odd" = some (some (.ref f12)))
    (l12 : K.lookup f12 = some ⟨oc12, od12, .func (PySem.W.fnOf "_law_odd" "_law_odd" (defArgs st__law_odd) (defBody st__law_odd) (defScope st__law_odd) .none kV12 dc12 pm12 an12 cd12 ct12), sl12⟩) (c12 : PySem.W.codeIn K cd12 "_law_odd" = true) (k12 : PySem.W.keepIn K (.ref f12) = true)
    (a13 : PySem.W.nsIn K mainGlobals "_law_right" = some (some (.ref f13)))
    (l13 : K.lookup f13 = some ⟨oc13, od13, .func (PySem.W.fnOf "_law_right" "_law_right" (defArgs st__law_right) (defBody st__law_right) (defScope st__law_right) .none kV13 dc13 pm13 an13 cd13 ct13), sl13⟩) (c13 : PySem.W.codeIn K cd13 "_law_right" = true) (k13 : PySem.W.keepIn K (.ref f13) = true)
    (a14 : PySem.W.nsIn K mainGlobals "law" = some (some (.ref f14)))
    (l14 : K.lookup f14 = some ⟨oc14, od14, .func (PySem.W.fnOf "law" "law" (defArgs st_law) (defBody st_law) (defScope st_law) .none kV14 dc14 pm14 an14 cd14 ct14), sl14⟩) (c14 : PySem.W.codeIn K cd14 "law" = true) (k14 : PySem.W.keepIn K (.ref f14) = true)
    (z_abs : PySem.W.nsIn K mainGlobals "abs" = some none)
    (z_all : PySem.W.nsIn K mainGlobals "all" = some none)
    (z_bool : PySem.W.nsIn K mainGlobals "bool" = some none)
    (z_int : PySem.W.nsIn K mainGlobals "int" = some none)
    (z_isinstance : PySem.W.nsIn K mainGlobals "isinstance" = some none)
    (z_len : PySem.W.nsIn K mainGlobals "len" = some none)
    (z_max : PySem.W.nsIn K mainGlobals "max" = some none)
    (z_min : PySem.W.nsIn K mainGlobals "min" = some none)
    (z_range : PySem.W.nsIn K mainGlobals "range" = some none)
    (z_repr : PySem.W.nsIn K mainGlobals "repr" = some none)
    (z_str : PySem.W.nsIn K mainGlobals "str" = some none)
    (z_tuple : PySem.W.nsIn K mainGlobals "tuple" = some none)
    (y_PAIR : PySem.W.nsIn K mainGlobals "PAIR" = some (some (.int 2 tk_PAIR))) :
    ∃ fd : FuncData, (∀ (s : Shared) (v : Value), BindsTo s fd ⟨[v], []⟩ [("_law_script", v)]) ∧ ∀ base : Heap, K.In base → base.Ns mainGlobals mg → Fn l.prog w K mg base CX0 6 fa fd ["_law_script"] (lift K 1 fs_law) := by
  have e := hfa.symm.trans (PySem.W.mg_of X G a14)
  cases e
  exact ⟨_, fun s v => .of_eq rfl, fun base _ _ => ok_law (mkTx X G a0 l0 c0 k0 a1 l1 c1 k1 a2 l2 c2 k2 a3 l3 c3 k3 a4 l4 c4 k4 a5 l5 c5 k5 a6 l6 c6 k6 a7 l7 c7 k7 a8 l8 c8 k8 a9 l9 c9 k9 a10 l10 c10 k10 a11 l11 c11 k11 a12 l12 c12 k12 a13 l13 c13 k13 a14 l14 c14 k14 z_abs z_all z_bool z_int z_isinstance z_len z_max z_min z_range z_repr z_str z_tuple y_PAIR)⟩
end LAW
open PySem PySem.W PyProof.Rows
set_option maxHeartbeats 0 in
theorem PySem.Challenge.cw_stagedrounding_k01_numbers_of_any_value_holds : PySem.Challenge.rw_stagedrounding_k01_numbers_of_any_value.Holds := by
  w_on; o_law; k_head; (case hw => w_witness2)
  k_fill
  refine Z.end_of (l := PySem.Challenge.rw_stagedrounding_k01_numbers_of_any_value) (n := 63) (k := 6) (x := "_law_script") (fs := LAW.fs_law) rfl (by decide) rfl ⟨rfl, by decide, by decide⟩ (fun w h Y => PySem.W.kIn_of Y) ?Fu LAW.law_true
  case Fu =>
    intro w mg fa h KX G hmg
    refine' LAW.all_mk KX G hmg ?a0 ?l0 ?c0 ?k0 ?a1 ?l1 ?c1 ?k1 ?a2 ?l2 ?c2 ?k2 ?a3 ?l3 ?c3 ?k3 ?a4 ?l4 ?c4 ?k4 ?a5 ?l5 ?c5 ?k5 ?a6 ?l6 ?c6 ?k6 ?a7 ?l7 ?c7 ?k7 ?a8 ?l8 ?c8 ?k8 ?a9 ?l9 ?c9 ?k9 ?a10 ?l10 ?c10 ?k10 ?a11 ?l11 ?c11 ?k11 ?a12 ?l12 ?c12 ?k12 ?a13 ?l13 ?c13 ?k13 ?a14 ?l14 ?c14 ?k14 ?z_abs ?z_all ?z_bool ?z_int ?z_isinstance ?z_len ?z_max ?z_min ?z_range ?z_repr ?z_str ?z_tuple ?y_PAIR
    (case a0 => k_is); (case l0 => k_is); (case c0 => k_is); (case k0 => k_is); (case a1 => k_is); (case l1 => k_is); (case c1 => k_is); (case k1 => k_is); (case a2 => k_is); (case l2 => k_is); (case c2 => k_is); (case k2 => k_is); (case a3 => k_is); (case l3 => k_is); (case c3 => k_is); (case k3 => k_is); (case a4 => k_is); (case l4 => k_is); (case c4 => k_is); (case k4 => k_is); (case a5 => k_is); (case l5 => k_is); (case c5 => k_is); (case k5 => k_is); (case a6 => k_is); (case l6 => k_is); (case c6 => k_is); (case k6 => k_is); (case a7 => k_is); (case l7 => k_is); (case c7 => k_is); (case k7 => k_is); (case a8 => k_is); (case l8 => k_is); (case c8 => k_is); (case k8 => k_is); (case a9 => k_is); (case l9 => k_is); (case c9 => k_is); (case k9 => k_is); (case a10 => k_is); (case l10 => k_is); (case c10 => k_is); (case k10 => k_is); (case a11 => k_is); (case l11 => k_is); (case c11 => k_is); (case k11 => k_is); (case a12 => k_is); (case l12 => k_is); (case c12 => k_is); (case k12 => k_is); (case a13 => k_is); (case l13 => k_is); (case c13 => k_is); (case k13 => k_is); (case a14 => k_is); (case l14 => k_is); (case c14 => k_is); (case k14 => k_is); (case z_abs => k_is); (case z_all => k_is); (case z_bool => k_is); (case z_int => k_is); (case z_isinstance => k_is); (case z_len => k_is); (case z_max => k_is); (case z_min => k_is); (case z_range => k_is); (case z_repr => k_is); (case z_str => k_is); (case z_tuple => k_is); (case y_PAIR => k_is)
