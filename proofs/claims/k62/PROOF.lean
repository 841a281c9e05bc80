import PyProof.Rows.All
import HandS.ForMost
import HandS.Evl
import HandS.IsInst
import HandS.Wide
import HandS.WideBits
import HandS.Zip
import HandS.Flow
import HandS.TupAny
import HandS.Style
import HandS.Walk
import HandS.Rev
import HandS.RaiseMore
import HandS.WideMore
import PyProof.ReprLen
import PyProof.ReprRoads
import HandS.Conv
import HandS.More
import HandS.HeadHook3
import KE.SortData
import PyProof.ListMulAny
import HandS.Deep
import PySem.Challenge.RW_stagedrounding_k62_whole_chains_by_defin
set_option Elab.async false
set_option linter.all false
set_option maxRecDepth 100000
set_option maxHeartbeats 4000000
set_option autoImplicit false
/-! Z: data in place of addresses, over the hand layer. -/
namespace Z
open L2 PySem PySem.Spec PyProof.Rows
open Evl (Ex ex_l ex_t ex_rd fresh_back)
abbrev Da := PyData
abbrev Fg := PySem.W.Frag

/-! ### what a value stands for, in the still part F of the heap -/
def keyD : Key → Da
  | .inl i => .int i
  | .inr x => .str x
mutual
inductive Rp (K : Fg) (F : Hp) : V → Da → Prop
  | non : Rp K F .non .none
  | bl (b : Bool) : Rp K F (.bl b) (.bool b)
  | int (i : Int) : Rp K F (.int i) (.int i)
  | str (x : Str) : Rp K F (.str x) (.str x)
  | lst {a : Addr} {xs : List V} {ds : List Da} : F a = some (.lst xs) → Rps K F xs ds → Rp K F (.ref a) (.list ds)
  | tup {a : Addr} {xs : List V} {ds : List Da} : SqT K F a xs → Rps K F xs ds → Rp K F (.ref a) (.tuple ds)
  | dct {a : Addr} {kvs : List (Key × V)} {es : List (Da × Da)} : Rd F a (.dK kvs) → RpK K F kvs es → Rp K F (.ref a) (.dict es)
inductive Rps (K : Fg) (F : Hp) : List V → List Da → Prop
  | nil : Rps K F [] []
  | cons {v : V} {vs : List V} {d : Da} {ds : List Da} : Rp K F v d → Rps K F vs ds → Rps K F (v :: vs) (d :: ds)
inductive RpK (K : Fg) (F : Hp) : List (Key × V) → List (Da × Da) → Prop
  | nil : RpK K F [] []
  | cons {k : Key} {v : V} {vs : List (Key × V)} {d : Da} {ds : List (Da × Da)} : Rp K F v d → RpK K F vs ds → RpK K F ((k, v) :: vs) ((keyD k, d) :: ds)
end
section
variable {K : Fg} {F F' : Hp}
mutual
theorem Rp.mono (e : Ex F F') : ∀ (d : Da) (v : V), Rp K F v d → Rp K F' v d
  | .none, _, h => by cases h; exact .non
  | .bool b, _, h => by cases h; exact .bl b
  | .int i, _, h => by cases h; exact .int i
  | .str x, _, h => by cases h; exact .str x
  | .list ds, _, h => by cases h with | lst hs ha => exact .lst (e _ _ hs) (Rps.mono e ds _ ha)
  | .tuple ds, _, h => by cases h with | tup hs ha => exact .tup (ex_t e hs) (Rps.mono e ds _ ha)
  | .dict es, _, h => by cases h with | dct hs ha => exact .dct (ex_rd e hs) (RpK.mono e es _ ha)
theorem Rps.mono (e : Ex F F') : ∀ (ds : List Da) (vs : List V), Rps K F vs ds → Rps K F' vs ds
  | [], _, h => by cases h; exact .nil
  | d :: ds, _, h => by cases h with | cons h1 h2 => exact .cons (Rp.mono e d _ h1) (Rps.mono e ds _ h2)
theorem RpK.mono (e : Ex F F') : ∀ (ds : List (Da × Da)) (vs : List (Key × V)), RpK K F vs ds → RpK K F' vs ds
  | [], _, h => by cases h; exact .nil
  | (_, d) :: ds, _, h => by cases h with | cons h1 h2 => exact .cons (Rp.mono e d _ h1) (RpK.mono e ds _ h2)
end
theorem Rp.up {v : V} {d : Da} (h : Rp K F v d) (e : Ex F F') : Rp K F' v d := Rp.mono e d v h
theorem Rps.up {v : List V} {d : List Da} (h : Rps K F v d) (e : Ex F F') : Rps K F' v d := Rps.mono e d v h
theorem Rps.len : ∀ {vs : List V} {ds : List Da}, Rps K F vs ds → vs.length = ds.length
  | _, _, .nil => rfl
  | _, _, .cons _ t => congrArg (· + 1) t.len
theorem Rps.get : ∀ {vs : List V} {ds : List Da} {i : Nat} {d : Da}, Rps K F vs ds → ds[i]? = some d → ∃ v, vs[i]? = some v ∧ Rp K F v d
  | _, _, _, _, .nil, e => by simp at e
  | _, _, 0, _, .cons r _, e => by simp at e; subst e; exact ⟨_, rfl, r⟩
  | _, _, i + 1, d, .cons _ t, e => by
    obtain ⟨u, h1, h2⟩ := Rps.get (i := i) (d := d) t (by simpa using e)
    exact ⟨u, by simpa using h1, h2⟩
theorem Rps.app : ∀ {vs us : List V} {ds es : List Da}, Rps K F vs ds → Rps K F us es → Rps K F (vs ++ us) (ds ++ es)
  | _, _, _, _, .nil, s => s
  | _, _, _, _, .cons r t, s => .cons r (t.app s)
theorem Rps.drp : ∀ (n : Nat) {vs : List V} {ds : List Da}, Rps K F vs ds → Rps K F (vs.drop n) (ds.drop n)
  | 0, _, _, h => h
  | n + 1, _, _, .nil => .nil
  | n + 1, _, _, .cons _ t => Rps.drp n t
theorem Rps.tak : ∀ (n : Nat) {vs : List V} {ds : List Da}, Rps K F vs ds → Rps K F (vs.take n) (ds.take n)
  | 0, _, _, h => .nil
  | n + 1, _, _, .nil => .nil
  | n + 1, _, _, .cons r t => .cons r (Rps.tak n t)
theorem Rps.st {v : V} {d : Da} (r : Rp K F v d) : ∀ (n : Nat) {vs : List V} {ds : List Da}, Rps K F vs ds → Rps K F (vs.set n v) (ds.set n d)
  | _, _, _, .nil => .nil
  | 0, _, _, .cons _ t => .cons r t
  | n + 1, _, _, .cons q t => .cons q (Rps.st r n t)
theorem Rps.ints : ∀ (ns : List Int), Rps K F (ns.map V.int) (ns.map PyData.int)
  | [] => .nil
  | n :: ns => .cons (.int n) (Rps.ints ns)
end

/-! ### the frame, told by data -/
/-- a local's content: a datum; an own list, not yet given away; the source of draws -/
inductive Sv where | val (d : Da) | own (ds : List Da) | src | scr (ns : List Int)
/-- an expression's value -/
inductive Rv where | val (d : Da) | src | scr (ns : List Int)
/-- a def's result -/
inductive Rr where | val (d : Da) | own (ds : List Da)
structure Gs where
  sl : List (Option Sv)
  fu : Option Nat
  ow : Bool
/-- the entry: the still part, the heap, the source that was handed in -/
structure Con where
  F : Hp
  H : Hp
  ext : Option Addr
def modS : Int := 2305843009213693921
/-- a source of draws that may be asked n times more -/
def SrcAt (H : Hp) (a : Addr) (n : Nat) : Prop := ∃ x y z : Int, H a = some (.lst [.int x, .int y, .int z]) ∧ 0 ≤ x ∧ x < 2 ^ 1000 ∧ 0 ≤ y ∧ y < modS ∧ 0 ≤ z ∧ z + n ≤ 2 ^ 40
def SlOk (K : Fg) (F H : Hp) (c : Con) (a : Addr) (fu : Option Nat) (v : V) : Sv → Prop
  | .val d => Rp K F v d
  | .own ds => ∃ o xs, v = .ref o ∧ F o = none ∧ c.H o = none ∧ H o = some (.lst xs) ∧ Rps K F xs ds ∧ (fu ≠ none → o ≠ a)
  | .src => v = .ref a ∧ fu ≠ none
  | .scr ns => ∃ b, v = .ref b ∧ SqL K F b (ns.map V.int)
def RvOk (K : Fg) (F : Hp) (a : Addr) (fu : Option Nat) (v : V) : Rv → Prop
  | .val d => Rp K F v d
  | .src => v = .ref a ∧ fu ≠ none
  | .scr ns => ∃ b, v = .ref b ∧ SqL K F b (ns.map V.int)
theorem RvOk.up {K : Fg} {F F' : Hp} {a : Addr} {fu : Option Nat} {v : V} (e : Ex F F') : ∀ {r : Rv}, RvOk K F a fu v r → RvOk K F' a fu v r
  | .val _, h => Rp.up h e
  | .src, h => h
  | .scr _, ⟨b, h1, h2⟩ => ⟨b, h1, ex_l e h2⟩
inductive Tm (K : Fg) (F : Hp) (a : Addr) (fu : Option Nat) : List V → List Rv → Prop
  | nil : Tm K F a fu [] []
  | cons {v : V} {vs : List V} {r : Rv} {rs : List Rv} : RvOk K F a fu v r → Tm K F a fu vs rs → Tm K F a fu (v :: vs) (r :: rs)
structure Sta (K : Fg) (c : Con) (g : Gs) (σ : L2.St) (H : Hp) (tv : List V) (tr : List Rv) (F : Hp) (a : Addr) : Prop where
  e0 : Ex c.F F
  eh : Ex F H
  keep : ∀ b o, c.ext ≠ some b → c.H b = some o → H b = some o
  new : ∀ b, F b ≠ none → c.F b ≠ none ∨ c.H b = none
  ex : ∀ b, c.ext = some b → a = b ∧ g.fu ≠ none
  ow : g.ow = true → c.ext = none
  src : ∀ n, g.fu = some n → F a = none ∧ (c.ext = some a ∨ (c.ext = none ∧ c.H a = none)) ∧ SrcAt H a n
  tmp : Tm K F a g.fu tv tr
  len : σ.length = g.sl.length
  slot : ∀ (i : Nat) s, g.sl[i]? = some (some s) → ∃ v, σ[i]? = some (some v) ∧ SlOk K F H c a g.fu v s
  dis : ∀ (i j : Nat) ds es, i ≠ j → g.sl[i]? = some (some (.own ds)) → g.sl[j]? = some (some (.own es)) → σ[i]? ≠ σ[j]?

/-- still part and heap have grown -/
structure Gr (F H F' H' : Hp) : Prop where
  f : Ex F F'
  h : Ex H H'
  s : Ex F' H'
  n : ∀ b, F' b ≠ none → F b ≠ none ∨ H b = none
theorem Gr.refl {F H : Hp} (e : Ex F H) : Gr F H F H := ⟨Ex.refl _, Ex.refl _, e, fun _ h => .inl h⟩
theorem ne_none {α : Type} {x : Option α} {o : α} (h : x = some o) : x ≠ none := by rw [h]; exact fun z => nomatch z
theorem Gr.new {F H : Hp} {p : Addr} {o : HO} (e : Ex F H) (hp : H p = none) : Gr F H (upd F p o) (upd H p o) := by
  have fp : F p = none := fresh_back e hp
  refine ⟨Ex.new fp, Ex.new hp, fun b u q => ?_, fun b q => ?_⟩
  · by_cases hb : b = p
    · subst hb; rw [upd_same] at q ⊢; exact q
    · rw [upd_ne hb] at q ⊢; exact e b u q
  · by_cases hb : b = p
    · subst hb; exact .inr hp
    · rw [upd_ne hb] at q; exact .inl q
theorem Gr.trans {F H F1 H1 F2 H2 : Hp} (a : Gr F H F1 H1) (b : Gr F1 H1 F2 H2) : Gr F H F2 H2 :=
  ⟨a.f.trans b.f, a.h.trans b.h, b.s, fun x q => by
    rcases b.n x q with z | z
    · exact a.n x z
    · exact .inr (fresh_back a.h z)⟩
theorem Tm.up {K : Fg} {F F' : Hp} {a : Addr} {fu : Option Nat} (e : Ex F F') : ∀ {tv : List V} {tr : List Rv}, Tm K F a fu tv tr → Tm K F' a fu tv tr
  | _, _, .nil => .nil
  | _, _, .cons (r := r) h t => .cons (h.up e) (t.up e)
section
variable {K : Fg} {c : Con} {g : Gs} {σ : L2.St} {H H' F F' : Hp} {tv : List V} {tr : List Rv} {a : Addr}
/-- an old address is not new -/
theorem Sta.fresh (s : Sta K c g σ H tv tr F a) {b : Addr} (h : H b = none) : c.H b = none := by
  cases q : c.H b with
  | none => rfl
  | some o =>
    by_cases hx : c.ext = some b
    · obtain ⟨e1, e2⟩ := s.ex b hx
      subst e1
      cases hf : g.fu with
      | none => exact absurd hf e2
      | some n =>
        obtain ⟨_, _, x, y, z, e, _⟩ := s.src n hf
        rw [h] at e; cases e
    · rw [s.keep b o hx q] at h; cases h
theorem Sta.grow (s : Sta K c g σ H tv tr F a) (r : Gr F H F' H') : Sta K c g σ H' tv tr F' a where
  e0 := s.e0.trans r.f
  eh := r.s
  keep := fun b o h1 h2 => r.h b o (s.keep b o h1 h2)
  new := fun b q => by
    rcases r.n b q with z | z
    · exact s.new b z
    · exact .inr (s.fresh z)
  ex := s.ex
  ow := s.ow
  src := fun n h => by
    obtain ⟨h1, h2, x, y, z, e, h3⟩ := s.src n h
    refine ⟨?_, h2, x, y, z, r.h _ _ e, h3⟩
    cases q : F' a with
    | none => rfl
    | some o =>
      rcases r.n a (ne_none q) with z | z
      · exact absurd h1 z
      · rw [e] at z; cases z
  tmp := s.tmp.up r.f
  len := s.len
  slot := fun i sv h => by
    obtain ⟨v, h1, h2⟩ := s.slot i sv h
    refine ⟨v, h1, ?_⟩
    cases sv with
    | val d => exact Rp.up h2 r.f
    | src => exact h2
    | scr ns => obtain ⟨b, z1, z2⟩ := h2; exact ⟨b, z1, ex_l r.f z2⟩
    | own ds =>
      obtain ⟨o, xs, q1, q2, q3, q4, q5, q6⟩ := h2
      refine ⟨o, xs, q1, ?_, q3, r.h _ _ q4, q5.up r.f, q6⟩
      cases q : F' o with
      | none => rfl
      | some u =>
        rcases r.n o (ne_none q) with z | z
        · exact absurd q2 z
        · rw [q4] at z; cases z
  dis := s.dis
theorem Sta.push (s : Sta K c g σ H tv tr F a) {v : V} {r : Rv} (h : RvOk K F a g.fu v r) : Sta K c g σ H (v :: tv) (r :: tr) F a :=
  ⟨s.e0, s.eh, s.keep, s.new, s.ex, s.ow, s.src, .cons h s.tmp, s.len, s.slot, s.dis⟩
theorem Sta.pop (s : Sta K c g σ H tv tr F a) {tv' : List V} {tr' : List Rv} (h : Tm K F a g.fu tv' tr') : Sta K c g σ H tv' tr' F a :=
  ⟨s.e0, s.eh, s.keep, s.new, s.ex, s.ow, s.src, h, s.len, s.slot, s.dis⟩
theorem Sta.pop1 {v : V} {r : Rv} (s : Sta K c g σ H (v :: tv) (r :: tr) F a) : Sta K c g σ H tv tr F a :=
  s.pop (by cases s.tmp with | cons _ t => exact t)
theorem Sta.top {v : V} {r : Rv} (s : Sta K c g σ H (v :: tv) (r :: tr) F a) : RvOk K F a g.fu v r := by
  cases s.tmp with | cons h _ => exact h
end

/-! ### readings by data -/
abbrev DE := Gs → (Rv → Gs → Prop) → Prop
abbrev DL := Gs → (List Da → Gs → Prop) → Prop
abbrev DT := Gs → (Bool → Gs → Prop) → Prop
abbrev DA := Gs → (List Rv → Gs → Prop) → Prop
structure DEnds where
  nx : Gs → Prop
  rt : Rr → Gs → Prop
  bk : Gs → Prop := fun _ => False
  ct : Gs → Prop := fun _ => False
abbrev DS := DEnds → Gs → Prop
def up (K : Fg) (t : DE) : TE := fun σ H Q => ∃ c g tv tr F a post, Sta K c g σ H tv tr F a ∧ t g post ∧
  ∀ r g' v H' F' a', post r g' → Sta K c g' σ H' (v :: tv) (r :: tr) F' a' → Q v H'
def upT (K : Fg) (t : DT) : TT := fun σ H Q => ∃ c g tv tr F a post, Sta K c g σ H tv tr F a ∧ t g post ∧
  ∀ b g' H' F' a', post b g' → Sta K c g' σ H' tv tr F' a' → Q b H'
/-- a new list, at an address of its own -/
structure NewL (K : Fg) (c : Con) (g : Gs) (σ : L2.St) (H F : Hp) (a : Addr) (v : V) (ds : List Da) : Prop where
  ex : ∃ o xs, v = .ref o ∧ F o = none ∧ c.H o = none ∧ H o = some (.lst xs) ∧ Rps K F xs ds ∧ (g.fu ≠ none → o ≠ a) ∧
    ∀ (i : Nat) (es : List Da), g.sl[i]? = some (some (Sv.own es)) → σ[i]? ≠ some (some (V.ref o))
def upL (K : Fg) (t : DL) : TE := fun σ H Q => ∃ c g tv tr F a post, Sta K c g σ H tv tr F a ∧ t g post ∧
  ∀ ds g' v H' F' a', post ds g' → Sta K c g' σ H' tv tr F' a' → NewL K c g' σ H' F' a' v ds → Q v H'
def upA (K : Fg) (t : DA) : TA := fun σ H Q => ∃ c g tv tr F a post, Sta K c g σ H tv tr F a ∧ t g post ∧
  ∀ rs g' vs H' F' a', post rs g' → Sta K c g' σ H' (vs.reverse ++ tv) (rs.reverse ++ tr) F' a' → vs.length = rs.length → Q vs H'
structure DD (K : Fg) (c : Con) (tv : List V) (tr : List Rv) (d : DEnds) (D : Ends) : Prop where
  nx : ∀ g σ H F a, d.nx g → Sta K c g σ H tv tr F a → D.nx σ H
  bk : ∀ g σ H F a, d.bk g → Sta K c g σ H tv tr F a → D.bk σ H
  ct : ∀ g σ H F a, d.ct g → Sta K c g σ H tv tr F a → D.ct σ H
  rv : ∀ x g σ v H F a, d.rt (.val x) g → Sta K c g σ H (v :: tv) (.val x :: tr) F a → D.rt v H
  ro : ∀ ds g σ v H F a, d.rt (.own ds) g → Sta K c g σ H tv tr F a → NewL K c { g with sl := [] } [] H F a v ds → D.rt v H
def hasSrc : List Rv → Bool
  | [] => false
  | .src :: _ => true
  | _ :: r => hasSrc r
theorem hasSrc_app : ∀ {rs ts : List Rv}, hasSrc rs = false → hasSrc ts = false → hasSrc (rs ++ ts) = false
  | [], _, _, h => h
  | .val _ :: rs, _, h, h' => hasSrc_app (rs := rs) h h'
  | .scr _ :: rs, _, h, h' => hasSrc_app (rs := rs) h h'
  | .src :: _, _, h, _ => by cases h
def upS (K : Fg) (t : DS) : TS := fun D σ H => ∃ c g tv tr F a d, Sta K c g σ H tv tr F a ∧ hasSrc tr = false ∧ t d g ∧ DD K c tv tr d D
section
variable {X : Cx} {e : Expr}
theorem pe_to {t t' : TE} (h : PE X e t) (i : ∀ σ H Q, t' σ H Q → t σ H Q) : PE X e t' := ⟨fun pins s σ H Q I q => h.run pins s σ H Q I (i σ H Q q)⟩
theorem pt_to {t t' : TT} (h : PT X e t) (i : ∀ σ H Q, t' σ H Q → t σ H Q) : PT X e t' := ⟨fun pins s σ H Q I q => h.run pins s σ H Q I (i σ H Q q)⟩
theorem pw_to {t t' : TT} (h : PW X e t) (i : ∀ σ H Q, t' σ H Q → t σ H Q) : PW X e t' := ⟨fun w pins s σ H Q I q => h.run w pins s σ H Q I (i σ H Q q)⟩
theorem pa_to {es : List Expr} {t t' : TA} (h : PA X es t) (i : ∀ σ H Q, t' σ H Q → t σ H Q) : PA X es t' := ⟨fun p pins s σ H Q I q => h.run p pins s σ H Q I (i σ H Q q)⟩
theorem ps_to {st : Stmt} {t t' : TS} (h : PS X st t) (i : ∀ D σ H, t' D σ H → t D σ H) : PS X st t' := ⟨fun pins s σ H D I q => h.run pins s σ H D I (i D σ H q)⟩
theorem pss_to {st : List Stmt} {t t' : TS} (h : PSs X st t) (i : ∀ D σ H, t' D σ H → t D σ H) : PSs X st t' := ⟨fun pins s σ H D I q => h.run pins s σ H D I (i D σ H q)⟩
end

/-! ### names and constants -/
def Gs.set (g : Gs) (i : Nat) (s : Sv) : Gs := { g with sl := g.sl.set i (some s) }
def dVar (i : Nat) : DE := fun g Q => match g.sl[i]? with
  | some (some (.val d)) => Q (.val d) g
  | some (some .src) => Q .src g
  | some (some (.scr ns)) => Q (.scr ns) g
  | some (some (.own ds)) => Q (.val (.list ds)) (g.set i (.val (.list ds)))
  | _ => False
def dC (d : Da) : DE := fun g Q => Q (.val d) g
section
variable {K : Fg} {c : Con} {g : Gs} {σ : L2.St} {H H' F F' : Hp} {tv : List V} {tr : List Rv} {a : Addr}
/-- an own list is given away: it stands still from now on -/
theorem Sta.freeze (s : Sta K c g σ H tv tr F a) {i : Nat} {ds : List Da} (h : g.sl[i]? = some (some (.own ds))) :
    ∃ o F', σ[i]? = some (some (.ref o)) ∧ Rp K F' (.ref o) (.list ds) ∧ Sta K c (g.set i (.val (.list ds))) σ H tv tr F' a := by
  obtain ⟨v, h1, o, xs, rfl, q2, q3, q4, q5, q6⟩ := s.slot i _ h
  have ef : Ex F (upd F o (.lst xs)) := Ex.new q2
  have ro : Rp K (upd F o (.lst xs)) (.ref o) (.list ds) := .lst upd_same (q5.up ef)
  have hi : i < g.sl.length := (List.getElem?_eq_some_iff.mp h).1
  refine ⟨o, upd F o (.lst xs), h1, ro, s.e0.trans ef, fun b u q => ?_, s.keep, fun b q => ?_, s.ex, s.ow, fun n hn => ?_, s.tmp.up ef, ?_, fun j sv hj => ?_, fun j k es fs hjk hj hk => ?_⟩
  · by_cases hb : b = o
    · subst hb; rw [upd_same] at q; cases q; exact q4
    · rw [upd_ne hb] at q; exact s.eh b u q
  · by_cases hb : b = o
    · subst hb; exact .inr q3
    · rw [upd_ne hb] at q; exact s.new b q
  · obtain ⟨z1, z2⟩ := s.src n hn
    refine ⟨?_, z2⟩
    rw [upd_ne (fun z => q6 (ne_none hn) z.symm)]; exact z1
  · show σ.length = (g.sl.set i _).length
    rw [List.length_set]; exact s.len
  · by_cases hji : j = i
    · subst hji
      have : (g.sl.set j (some (Sv.val (.list ds))))[j]? = some (some sv) := hj
      rw [List.getElem?_set_self hi] at this
      cases this
      exact ⟨_, h1, ro⟩
    · have : (g.sl.set i (some (Sv.val (.list ds))))[j]? = some (some sv) := hj
      rw [List.getElem?_set_ne (Ne.symm hji)] at this
      obtain ⟨v, w1, w2⟩ := s.slot j sv this
      refine ⟨v, w1, ?_⟩
      cases sv with
      | val d => exact Rp.up w2 ef
      | src => exact w2
      | scr ns => obtain ⟨b, z1, z2⟩ := w2; exact ⟨b, z1, ex_l ef z2⟩
      | own es =>
        obtain ⟨o', ys, r1, r2, r3, r4, r5, r6⟩ := w2
        have ne : o' ≠ o := fun z => s.dis j i es ds hji this h (by rw [w1, h1, r1, z])
        exact ⟨o', ys, r1, by rw [upd_ne ne]; exact r2, r3, r4, r5.up ef, r6⟩
  · have n1 : j ≠ i := fun z => by
      subst z
      have : (g.sl.set j (some (Sv.val (.list ds))))[j]? = some (some (.own es)) := hj
      rw [List.getElem?_set_self hi] at this; cases this
    have n2 : k ≠ i := fun z => by
      subst z
      have : (g.sl.set k (some (Sv.val (.list ds))))[k]? = some (some (.own fs)) := hk
      rw [List.getElem?_set_self hi] at this; cases this
    have e1 : (g.sl.set i (some (Sv.val (.list ds))))[j]? = some (some (.own es)) := hj
    have e2 : (g.sl.set i (some (Sv.val (.list ds))))[k]? = some (some (.own fs)) := hk
    rw [List.getElem?_set_ne (Ne.symm n1)] at e1
    rw [List.getElem?_set_ne (Ne.symm n2)] at e2
    exact s.dis j k es fs hjk e1 e2
end
section
variable {X : Cx} {e : Expr}
theorem e_var (i : Nat) (h : PE X e (tVar i)) : PE X e (up X.K (dVar i)) := pe_to h fun σ H Q q => by
  obtain ⟨c, g, tv, tr, F, a, post, s, t, k⟩ := q
  unfold dVar at t
  split at t
  · rename_i d hd
    obtain ⟨v, h1, h2⟩ := s.slot i _ hd
    exact ⟨v, h1, k _ g v H F a t (s.push (r := .val d) h2)⟩
  · rename_i hd
    obtain ⟨v, h1, h2⟩ := s.slot i _ hd
    exact ⟨v, h1, k _ g v H F a t (s.push (r := .src) h2)⟩
  · rename_i ns hd
    obtain ⟨v, h1, h2⟩ := s.slot i _ hd
    exact ⟨v, h1, k _ g v H F a t (s.push (r := .scr ns) h2)⟩
  · rename_i ds hd
    obtain ⟨o, F', h1, h2, s'⟩ := s.freeze hd
    exact ⟨_, h1, k _ _ _ H F' a t (s'.push (r := .val (.list ds)) h2)⟩
  · exact t.elim
/-- anything whose value is plain and the same always -/
theorem e_c {v : V} {d : Da} (h : PE X e (tC v)) (r : ∀ F, Rp X.K F v d) : PE X e (up X.K (dC d)) := pe_to h fun σ H Q q => by
  obtain ⟨c, g, tv, tr, F, a, post, s, t, k⟩ := q
  exact k _ g v H F a t (s.push (r := .val d) (r F))
theorem e_int {i j pos} : PE X (.Constant (.int i) j pos) (up X.K (dC (.int i))) := e_c pe_int fun _ => .int i
theorem e_bl {b j pos} : PE X (.Constant (.bool b) j pos) (up X.K (dC (.bool b))) := e_c pe_bl fun _ => .bl b
theorem e_non {j pos} : PE X (.Constant .none j pos) (up X.K (dC .none)) := e_c pe_non fun _ => .non
theorem e_str {x j pos} : PE X (.Constant (.str x) j pos) (up X.K (dC (.str x))) := e_c pe_str fun _ => .str x
end
end Z

namespace Z
open L2 PySem PySem.Spec PyProof.Rows
open Evl (Ex ex_l ex_t ex_rd fresh_back)

/-! ### operators -/
abbrev BinF := Da → Da → (Da → Prop) → Prop
def dBin (f : BinF) (ta tb : DE) : DE := fun g Q => ta g fun x g1 => tb g1 fun y g2 => match x, y with
  | .val d, .val e => f d e fun z => Q (.val z) g2
  | _, _ => False
/-- on values: what r asks follows from f -/
def BinOk (K : Fg) (r : R2) (f : BinF) : Prop := ∀ (F H : Hp) (x y : V) (d e : Da) (post : Da → Prop) (Q : VK), Ex F H → Rp K F x d → Rp K F y e → f d e post →
  (∀ z v H' F', post z → Gr F H F' H' → Rp K F' v z → Q v H') → r x y H Q
section
variable {X : Cx} {a b : Expr} {ta tb : DE} {pos : Pos} {f : BinF} {r : R2}
theorem bin_core (hf : BinOk X.K r f) : ∀ σ H Q, up X.K (dBin f ta tb) σ H Q → tOp r (up X.K ta) (up X.K tb) σ H Q := fun σ H Q q => by
  obtain ⟨c, g, tv, tr, F, ad, post, s, t, k⟩ := q
  refine ⟨c, g, tv, tr, F, ad, _, s, t, fun x g1 v1 H1 F1 a1 t1 s1 => ?_⟩
  refine ⟨c, g1, _, _, F1, a1, _, s1, t1, fun y g2 v2 H2 F2 a2 t2 s2 => ?_⟩
  cases x with
  | val d =>
    cases y with
    | val e =>
      have r1 : Rp X.K F2 v1 d := s2.pop1.top
      have r2 : Rp X.K F2 v2 e := s2.top
      refine hf F2 H2 v1 v2 d e _ Q s2.eh r1 r2 t2 fun z v H' F' hz gr rz => ?_
      exact k _ g2 v H' F' a2 hz ((s2.pop1.pop1.grow gr).push (r := .val z) rz)
    | src => exact t2.elim
    | scr _ => exact t2.elim
  | src => exact t2.elim
  | scr _ => exact t2.elim
theorem e_bin {op : Operator} (ho : OpR X (binaryOp op) r) (hf : BinOk X.K r f) (ha : PE X a (up X.K ta)) (hb : PE X b (up X.K tb)) : PE X (.BinOp a op b pos) (up X.K (dBin f ta tb)) :=
  pe_to (pe_op ho ha hb) (bin_core hf)
theorem e_cmp {op : CmpOp} (ho : OpR X (compareOp op) r) (hf : BinOk X.K r f) (ha : PE X a (up X.K ta)) (hb : PE X b (up X.K tb)) (hm : behindInMarks op b = false) : PE X (.Compare a [op] [b] pos) (up X.K (dBin f ta tb)) :=
  pe_to (pe_cmpR ho ha hb hm) (bin_core hf)
theorem or_op {ff : Value → Value → Sem Value} {r1 r2 : R2} (h1 : OpR X ff r1) (h2 : OpR X ff r2) : OpR X ff (fun x y H Q => r1 x y H Q ∨ r2 x y H Q) := by
  intro pins s σ H x y v u Q I rx ry h
  rcases h with h | h
  · exact h1 pins s σ H x y v u Q I rx ry h
  · exact h2 pins s σ H x y v u Q I rx ry h
end

/-! ints -/
def fI (C : Int → Int → Prop) (o : Int → Int → Da) : BinF := fun d e post => match d, e with
  | .int i, .int j => C i j ∧ post (o i j)
  | _, _ => False
section
variable {K : Fg}
theorem ok_I {C : Int → Int → Prop} {o : Int → Int → Int} : BinOk K (rI C fun i j => .int (o i j)) (fI C fun i j => .int (o i j)) := fun F H x y d e post Q hx r1 r2 hf k => by
  cases d with
  | int i =>
    cases e with
    | int j =>
      cases r1; cases r2
      exact ⟨i, j, rfl, rfl, hf.1, k _ _ H F hf.2 (Gr.refl hx) (.int _)⟩
    | _ => exact hf.elim
  | _ => exact hf.elim
theorem ok_Ib {C : Int → Int → Prop} {o : Int → Int → Bool} : BinOk K (rI C fun i j => .bl (o i j)) (fI C fun i j => .bool (o i j)) := fun F H x y d e post Q hx r1 r2 hf k => by
  cases d with
  | int i =>
    cases e with
    | int j =>
      cases r1; cases r2
      exact ⟨i, j, rfl, rfl, hf.1, k _ _ H F hf.2 (Gr.refl hx) (.bl _)⟩
    | _ => exact hf.elim
  | _ => exact hf.elim
end
def fI0 (o : Int → Int → Da) : BinF := fun d e post => match d, e with
  | .int i, .int j => post (o i j)
  | _, _ => False
section
variable {K : Fg}
theorem ok_I0 {o : Int → Int → Int} : BinOk K (rI0 fun i j => .int (o i j)) (fI0 fun i j => .int (o i j)) := fun F H x y d e post Q hx r1 r2 hf k => by
  cases d with
  | int i =>
    cases e with
    | int j =>
      cases r1; cases r2
      exact ⟨i, j, rfl, rfl, k _ _ H F hf (Gr.refl hx) (.int _)⟩
    | _ => exact hf.elim
  | _ => exact hf.elim
theorem ok_I0b {o : Int → Int → Bool} : BinOk K (rI0 fun i j => .bl (o i j)) (fI0 fun i j => .bool (o i j)) := fun F H x y d e post Q hx r1 r2 hf k => by
  cases d with
  | int i =>
    cases e with
    | int j =>
      cases r1; cases r2
      exact ⟨i, j, rfl, rfl, k _ _ H F hf (Gr.refl hx) (.bl _)⟩
    | _ => exact hf.elim
  | _ => exact hf.elim
end
def CPowX (i j : Int) : Prop := 0 ≤ j ∧ (Builtin.Int.intBits i : Int) * j ≤ 2 ^ 27
/-- +: ints, texts, tuples, lists -/
def fAdd : BinF := fun d e post => match d, e with
  | .int i, .int j => post (.int (i + j))
  | .str x, .str y => x.length + y.length ≤ sizeLine ∧ post (.str (x ++ y))
  | .tuple xs, .tuple ys => xs ≠ [] ∧ xs.length + ys.length ≤ sizeLine ∧ post (.tuple (xs ++ ys))
  | .list xs, .list ys => xs.length + ys.length ≤ sizeLine ∧ post (.list (xs ++ ys))
  | _, _ => False
section
variable {X : Cx} {a b : Expr} {ta tb : DE} {pos : Pos}
theorem Rps.nil_iff {K : Fg} {F : Hp} {xs : List V} {ds : List Da} (h : Rps K F xs ds) : xs = [] ↔ ds = [] := by
  cases h <;> simp
theorem e_add (ha : PE X a (up X.K ta)) (hb : PE X b (up X.K tb)) : PE X (.BinOp a .Add b pos) (up X.K (dBin fAdd ta tb)) := by
  refine e_bin (or_op op_add (or_op op_add_str (or_op op_catT op_cat))) ?_ ha hb
  intro F H x y d e post Q hx r1 r2 hf k
  cases d with
  | int i =>
    cases e with
    | int j =>
      cases r1; cases r2
      exact .inl ⟨i, j, rfl, rfl, k _ _ H F hf (Gr.refl hx) (.int _)⟩
    | _ => exact hf.elim
  | str u =>
    cases e with
    | str w =>
      cases r1; cases r2
      exact .inr (.inl ⟨u, w, rfl, rfl, hf.1, k _ _ H F hf.2 (Gr.refl hx) (.str _)⟩)
    | _ => exact hf.elim
  | tuple ds =>
    cases e with
    | tuple es =>
      cases r1 with
      | tup s1 m1 =>
        cases r2 with
        | tup s2 m2 =>
          rename_i p1 xs p2 ys
          obtain ⟨h1, h2, h3⟩ := hf
          refine .inr (.inr (.inl ⟨p1, p2, xs, ys, rfl, rfl, ex_t hx s1, ex_t hx s2, fun z => h1 (m1.nil_iff.mp z), by rw [m1.len, m2.len]; exact h2, fun z => ?_, fun z p hp => ?_⟩))
          · have : es = [] := m2.nil_iff.mp z
            subst this
            rw [List.append_nil] at h3
            exact k _ _ H F h3 (Gr.refl hx) (.tup s1 m1)
          · have gr := Gr.new (o := .tup (xs ++ ys)) hx hp
            exact k _ _ _ _ h3 gr (.tup (.inl (.inl upd_same)) ((m1.up gr.f).app (m2.up gr.f)))
    | _ => exact hf.elim
  | list ds =>
    cases e with
    | list es =>
      cases r1 with
      | lst s1 m1 =>
        cases r2 with
        | lst s2 m2 =>
          rename_i p1 xs p2 ys
          obtain ⟨h2, h3⟩ := hf
          refine .inr (.inr (.inr ⟨p1, p2, xs, ys, rfl, rfl, hx _ _ s1, hx _ _ s2, by rw [m1.len, m2.len]; exact h2, fun p hp => ?_⟩))
          have gr := Gr.new (o := .lst (xs ++ ys)) hx hp
          exact k _ _ _ _ h3 gr (.lst upd_same ((m1.up gr.f).app (m2.up gr.f)))
    | _ => exact hf.elim
  | _ => exact hf.elim
theorem e_sub (ha : PE X a (up X.K ta)) (hb : PE X b (up X.K tb)) : PE X (.BinOp a .Sub b pos) (up X.K (dBin (fI0 fun i j => .int (i - j)) ta tb)) := e_bin op_sub ok_I0 ha hb
theorem e_mul (ha : PE X a (up X.K ta)) (hb : PE X b (up X.K tb)) : PE X (.BinOp a .Mult b pos) (up X.K (dBin (fI CMulX fun i j => .int (i * j)) ta tb)) := e_bin op_mulX ok_I ha hb
theorem e_div (ha : PE X a (up X.K ta)) (hb : PE X b (up X.K tb)) : PE X (.BinOp a .FloorDiv b pos) (up X.K (dBin (fI CDivW fun i j => .int (i / j)) ta tb)) := e_bin op_fdivW ok_I ha hb
theorem e_mod (ha : PE X a (up X.K ta)) (hb : PE X b (up X.K tb)) : PE X (.BinOp a .Mod b pos) (up X.K (dBin (fI (fun _ j => 0 < j) fun i j => .int (i % j)) ta tb)) := e_bin op_mod ok_I ha hb
theorem e_shl (ha : PE X a (up X.K ta)) (hb : PE X b (up X.K tb)) : PE X (.BinOp a .LShift b pos) (up X.K (dBin (fI CShl fun i j => .int (i * 2 ^ j.toNat)) ta tb)) := e_bin op_shlW ok_I ha hb
theorem e_shr (ha : PE X a (up X.K ta)) (hb : PE X b (up X.K tb)) : PE X (.BinOp a .RShift b pos) (up X.K (dBin (fI (fun _ j => 0 ≤ j) fun i j => .int (i / 2 ^ j.toNat)) ta tb)) := e_bin op_shr ok_I ha hb
theorem op_powX : OpR X (binaryOp .Pow) (rI CPowX fun i j => .int (i ^ j.toNat)) := opI fun _ _ _ _ _ _ _ hc q => pow_int hc.1 hc.2 q
theorem e_pow (ha : PE X a (up X.K ta)) (hb : PE X b (up X.K tb)) : PE X (.BinOp a .Pow b pos) (up X.K (dBin (fI CPowX fun i j => .int (i ^ j.toNat)) ta tb)) := e_bin op_powX ok_I ha hb
theorem e_band (ha : PE X a (up X.K ta)) (hb : PE X b (up X.K tb)) : PE X (.BinOp a .BitAnd b pos) (up X.K (dBin (fI0 fun i j => .int (Builtin.bitAnd i j)) ta tb)) := e_bin op_and ok_I0 ha hb
theorem e_lt (ha : PE X a (up X.K ta)) (hb : PE X b (up X.K tb)) : PE X (.Compare a [.Lt] [b] pos) (up X.K (dBin (fI0 fun i j => .bool (decide (i < j))) ta tb)) := e_cmp op_lt ok_I0b ha hb (nomark _)
theorem e_le (ha : PE X a (up X.K ta)) (hb : PE X b (up X.K tb)) : PE X (.Compare a [.LtE] [b] pos) (up X.K (dBin (fI0 fun i j => .bool (decide (i ≤ j))) ta tb)) := e_cmp op_le ok_I0b ha hb (nomark _)
theorem e_gt (ha : PE X a (up X.K ta)) (hb : PE X b (up X.K tb)) : PE X (.Compare a [.Gt] [b] pos) (up X.K (dBin (fI0 fun i j => .bool (decide (j < i))) ta tb)) := e_cmp op_gt ok_I0b ha hb (nomark _)
theorem e_ge (ha : PE X a (up X.K ta)) (hb : PE X b (up X.K tb)) : PE X (.Compare a [.GtE] [b] pos) (up X.K (dBin (fI0 fun i j => .bool (decide (j ≤ i))) ta tb)) := e_cmp op_ge ok_I0b ha hb (nomark _)
end
/-! == and != -/
section
variable {K : Fg} {F H : Hp}
mutual
theorem Rp.dp (e : Ex F H) : ∀ (d : Da) (v : V), Rp K F v d → d.canLay0 = true → Dp K H v d
  | .none, _, h, _ => by cases h; exact .non
  | .bool b, _, h, _ => by cases h; exact .bl b
  | .int i, _, h, _ => by cases h; exact .int i
  | .str x, _, h, _ => by cases h; exact .str x
  | .list ds, _, h, q => by cases h with | lst hs ha => exact .lst (.inl (.inl (e _ _ hs))) (Rps.dp e ds _ ha (by simpa [PyData.canLay0] using q))
  | .tuple ds, _, h, q => by cases h with | tup hs ha => exact .tup (ex_t e hs) (Rps.dp e ds _ ha (by simpa [PyData.canLay0] using q))
  | .dict es, _, h, q => by simp [PyData.canLay0] at q
theorem Rps.dp (e : Ex F H) : ∀ (ds : List Da) (vs : List V), Rps K F vs ds → PyData.canLayAll0 ds = true → DpAll K H vs ds
  | [], _, h, _ => by cases h; exact .nil
  | d :: ds, _, h, q => by
    cases h with
    | cons h1 h2 =>
      have q' : d.canLay0 = true ∧ PyData.canLayAll0 ds = true := by simpa [PyData.canLayAll0] using q
      exact .cons (Rp.dp e d _ h1 q'.1) (Rps.dp e ds _ h2 q'.2)
end
end
def fEq : BinF := fun d e post => SeqAt.shaped d = true ∧ SeqAt.shaped e = true ∧ post (.bool (d.eqv e))
def fNe : BinF := fun d e post => SeqAt.shaped d = true ∧ SeqAt.shaped e = true ∧ post (.bool (!d.eqv e))
theorem shaped_lay {d : Da} (h : SeqAt.shaped d = true) : d.canLay0 = true := by
  unfold SeqAt.shaped at h
  rw [Bool.and_eq_true] at h
  exact h.1
section
variable {X : Cx} {a b : Expr} {ta tb : DE} {pos : Pos}
theorem e_eq (hu : X.A.units + 64 < cLine) (ha : PE X a (up X.K ta)) (hb : PE X b (up X.K tb)) : PE X (.Compare a [.Eq] [b] pos) (up X.K (dBin fEq ta tb)) :=
  e_cmp (op_eqD hu) (fun F H x y d e post Q hx r1 r2 hf k => ⟨d, e, r1.dp hx d x (shaped_lay hf.1), r2.dp hx e y (shaped_lay hf.2.1), hf.1, hf.2.1, k _ _ H F hf.2.2 (Gr.refl hx) (.bl _)⟩) ha hb (nomark _)
theorem e_ne (hu : X.A.units + 64 < cLine) (ha : PE X a (up X.K ta)) (hb : PE X b (up X.K tb)) : PE X (.Compare a [.NotEq] [b] pos) (up X.K (dBin fNe ta tb)) :=
  e_cmp (op_neD hu) (fun F H x y d e post Q hx r1 r2 hf k => ⟨d, e, r1.dp hx d x (shaped_lay hf.1), r2.dp hx e y (shaped_lay hf.2.1), hf.1, hf.2.1, k _ _ H F hf.2.2 (Gr.refl hx) (.bl _)⟩) ha hb (nomark _)
end
/-! in, not in: flat data -/
def flatD : Da → Bool
  | .none => true
  | .bool _ => true
  | .int _ => true
  | .str _ => true
  | _ => false
def inD (d : Da) (es : List Da) : Bool := es.any fun y => y.eqv d
def fIn (neg : Bool) : BinF := fun d e post => match e with
  | .tuple es => flatD d = true ∧ es.all flatD = true ∧ post (.bool (if neg then !inD d es else inD d es))
  | .list es => flatD d = true ∧ es.all flatD = true ∧ post (.bool (if neg then !inD d es else inD d es))
  | _ => False
section
variable {K : Fg} {F H : Hp}
theorem flat_v {v : V} {d : Da} (r : Rp K F v d) (h : flatD d = true) : flatV v = true := by
  cases r <;> first | rfl | exact absurd (show false = true from h) Bool.false_ne_true
theorem eqv_v {v w : V} {d e : Da} (r : Rp K F v d) (q : Rp K F w e) (h : flatD d = true) (h' : flatD e = true) : eqV v w = d.eqv e := by
  cases r <;> first | exact absurd (show false = true from h) Bool.false_ne_true | (cases q <;> first | exact absurd (show false = true from h') Bool.false_ne_true | (simp [eqV, PyData.eqv]))
theorem flat_vs : ∀ {vs : List V} {ds : List Da}, Rps K F vs ds → ds.all flatD = true → vs.all flatV = true
  | _, _, .nil, _ => rfl
  | _, _, .cons r t, h => by
    rw [List.all_cons, Bool.and_eq_true] at h ⊢
    exact ⟨flat_v r h.1, flat_vs t h.2⟩
theorem in_v {x : V} {d : Da} (r : Rp K F x d) (hd : flatD d = true) : ∀ {vs : List V} {ds : List Da}, Rps K F vs ds → ds.all flatD = true → inV x vs = inD d ds
  | _, _, .nil, _ => rfl
  | _, _, .cons q t, h => by
    rw [List.all_cons, Bool.and_eq_true] at h
    have ih := in_v r hd t h.2
    unfold inV inD at ih ⊢
    rw [List.any_cons, List.any_cons, ih, eqv_v q r h.1 hd]
theorem ok_in {neg : Bool} : BinOk K (rIn K neg) (fIn neg) := fun F H x y d e post Q hx r1 r2 hf k => by
  cases e with
  | tuple es =>
    cases r2 with
    | tup s1 m1 =>
      obtain ⟨h1, h2, h3⟩ := hf
      refine ⟨_, _, rfl, .inr (ex_t hx s1), flat_v r1 h1, flat_vs m1 h2, ?_⟩
      rw [in_v r1 h1 m1 h2]
      exact k _ _ H F h3 (Gr.refl hx) (.bl _)
  | list es =>
    cases r2 with
    | lst s1 m1 =>
      obtain ⟨h1, h2, h3⟩ := hf
      refine ⟨_, _, rfl, .inl (.inl (.inl (hx _ _ s1))), flat_v r1 h1, flat_vs m1 h2, ?_⟩
      rw [in_v r1 h1 m1 h2]
      exact k _ _ H F h3 (Gr.refl hx) (.bl _)
  | _ => exact hf.elim
end
section
variable {X : Cx} {a b : Expr} {ta tb : DE} {pos : Pos}
theorem e_in (ha : PE X a (up X.K ta)) (hb : PE X b (up X.K tb)) (hm : behindInMarks .In b = false := by rfl) : PE X (.Compare a [.In] [b] pos) (up X.K (dBin (fIn false) ta tb)) := e_cmp op_in_seq ok_in ha hb hm
theorem e_notin (ha : PE X a (up X.K ta)) (hb : PE X b (up X.K tb)) (hm : behindInMarks .NotIn b = false := by rfl) : PE X (.Compare a [.NotIn] [b] pos) (up X.K (dBin (fIn true) ta tb)) := e_cmp op_notIn_seq ok_in ha hb hm
end
end Z

namespace Z
open L2 PySem PySem.Spec PyProof.Rows
open Evl (Ex ex_l ex_t ex_rd fresh_back)

/-! ### tests, and, or, not, a if t else b -/
def dTest (t : DE) : DT := fun g Q => t g fun r g1 => match r with
  | .val (.bool b) => Q b g1
  | _ => False
def dAndT (ta tb : DT) : DT := fun g Q => ta g fun b g1 => (b = true → tb g1 Q) ∧ (b = false → Q false g1)
def dOrT (ta tb : DT) : DT := fun g Q => ta g fun b g1 => (b = true → Q true g1) ∧ (b = false → tb g1 Q)
def dNotT (ta : DT) : DT := fun g Q => ta g fun b g1 => Q (!b) g1
def dAndV (ta tb : DE) : DE := fun g Q => ta g fun r g1 => match r with
  | .val (.bool b) => (b = true → tb g1 Q) ∧ (b = false → Q (.val (.bool false)) g1)
  | _ => False
def dOrV (ta tb : DE) : DE := fun g Q => ta g fun r g1 => match r with
  | .val (.bool b) => (b = true → Q (.val (.bool true)) g1) ∧ (b = false → tb g1 Q)
  | _ => False
def dNotV (ta : DE) : DE := fun g Q => ta g fun r g1 => match r with
  | .val (.bool b) => Q (.val (.bool (!b))) g1
  | _ => False
def dIf (t : DT) (ta tb : DE) : DE := fun g Q => t g fun b g1 => (b = true → ta g1 Q) ∧ (b = false → tb g1 Q)
section
variable {K : Fg} {F : Hp} {a : Addr} {fu : Option Nat} {v : V}
theorem RvOk.bl {r : Rv} (h : RvOk K F a fu v r) {b : Bool} (e : r = .val (.bool b)) : v = .bl b := by
  subst e
  have h' : Rp K F v (.bool b) := h
  cases h'; rfl
end
section
variable {X : Cx} {a b c e : Expr} {ta tb t : DE} {sa sb : DT} {pos : Pos} {rest : List Expr}
theorem t_val (h : PE X e (up X.K t)) (hw : ∀ whole : Sem Value, isTrue e X.env whole = (do
    let v ← whole
    standAt e.pos
    holding [v] (truthy v)) := by intro _; rfl) : PT X e (upT X.K (dTest t)) := pt_to (pt_val h hw) fun σ H Q q => by
  obtain ⟨c, g, tv, tr, F, ad, post, s, t1, k⟩ := q
  refine ⟨c, g, tv, tr, F, ad, _, s, t1, fun r g1 v1 H1 F1 a1 h1 s1 => ?_⟩
  cases r with
  | val d =>
    cases d with
    | bool b => exact ⟨b, s1.top.bl rfl, k b g1 H1 F1 a1 h1 s1.pop1⟩
    | _ => exact h1.elim
  | _ => exact h1.elim
theorem w_and (h1 : PT X a (upT X.K sa)) (h2 : PW X (.BoolOp .And (b :: rest) pos) (upT X.K sb)) : PW X (.BoolOp .And (a :: b :: rest) pos) (upT X.K (dAndT sa sb)) := pw_to (pw_and h1 h2) fun σ H Q q => by
  obtain ⟨c, g, tv, tr, F, ad, post, s, t1, k⟩ := q
  refine ⟨c, g, tv, tr, F, ad, _, s, t1, fun b g1 H1 F1 a1 h1 s1 => ?_⟩
  cases b with
  | true => rw [if_pos rfl]; exact ⟨c, g1, tv, tr, F1, a1, _, s1, h1.1 rfl, k⟩
  | false => rw [if_neg Bool.false_ne_true]; exact k false g1 H1 F1 a1 (h1.2 rfl) s1
theorem w_and1 (h1 : PT X a (upT X.K sa)) : PW X (.BoolOp .And [a] pos) (upT X.K sa) := pw_and1 h1
theorem w_or (h1 : PT X a (upT X.K sa)) (h2 : PW X (.BoolOp .Or (b :: rest) pos) (upT X.K sb)) : PW X (.BoolOp .Or (a :: b :: rest) pos) (upT X.K (dOrT sa sb)) := pw_to (pw_or h1 h2) fun σ H Q q => by
  obtain ⟨c, g, tv, tr, F, ad, post, s, t1, k⟩ := q
  refine ⟨c, g, tv, tr, F, ad, _, s, t1, fun b g1 H1 F1 a1 h1 s1 => ?_⟩
  cases b with
  | true => rw [if_pos rfl]; exact k true g1 H1 F1 a1 (h1.1 rfl) s1
  | false => rw [if_neg Bool.false_ne_true]; exact ⟨c, g1, tv, tr, F1, a1, _, s1, h1.2 rfl, k⟩
theorem w_or1 (h1 : PT X a (upT X.K sa)) : PW X (.BoolOp .Or [a] pos) (upT X.K sa) := pw_or1 h1
theorem t_not (h1 : PT X a (upT X.K sa)) : PT X (.UnaryOp .Not a pos) (upT X.K (dNotT sa)) := pt_to (pt_not h1) fun σ H Q q => by
  obtain ⟨c, g, tv, tr, F, ad, post, s, t1, k⟩ := q
  exact ⟨c, g, tv, tr, F, ad, _, s, t1, fun b g1 H1 F1 a1 h1 s1 => k _ g1 H1 F1 a1 h1 s1⟩
theorem e_and (h1 : PE X a (up X.K ta)) (h2 : PE X (.BoolOp .And (b :: rest) pos) (up X.K tb)) : PE X (.BoolOp .And (a :: b :: rest) pos) (up X.K (dAndV ta tb)) := pe_to (pe_and h1 h2) fun σ H Q q => by
  obtain ⟨c, g, tv, tr, F, ad, post, s, t1, k⟩ := q
  refine ⟨c, g, tv, tr, F, ad, _, s, t1, fun r g1 v1 H1 F1 a1 h1 s1 => ?_⟩
  cases r with
  | val d =>
    cases d with
    | bool b =>
      refine ⟨b, s1.top.bl rfl, ?_⟩
      cases b with
      | true => rw [if_pos rfl]; exact ⟨c, g1, tv, tr, F1, a1, _, s1.pop1, h1.1 rfl, k⟩
      | false => rw [if_neg Bool.false_ne_true]; exact k _ g1 _ H1 F1 a1 (h1.2 rfl) (s1.pop1.push (r := .val (.bool false)) (Rp.bl false))
    | _ => exact h1.elim
  | _ => exact h1.elim
theorem e_or (h1 : PE X a (up X.K ta)) (h2 : PE X (.BoolOp .Or (b :: rest) pos) (up X.K tb)) : PE X (.BoolOp .Or (a :: b :: rest) pos) (up X.K (dOrV ta tb)) := pe_to (pe_or h1 h2) fun σ H Q q => by
  obtain ⟨c, g, tv, tr, F, ad, post, s, t1, k⟩ := q
  refine ⟨c, g, tv, tr, F, ad, _, s, t1, fun r g1 v1 H1 F1 a1 h1 s1 => ?_⟩
  cases r with
  | val d =>
    cases d with
    | bool b =>
      refine ⟨b, s1.top.bl rfl, ?_⟩
      cases b with
      | true => rw [if_pos rfl]; exact k _ g1 _ H1 F1 a1 (h1.1 rfl) (s1.pop1.push (r := .val (.bool true)) (Rp.bl true))
      | false => rw [if_neg Bool.false_ne_true]; exact ⟨c, g1, tv, tr, F1, a1, _, s1.pop1, h1.2 rfl, k⟩
    | _ => exact h1.elim
  | _ => exact h1.elim
theorem e_one {op : BoolOp} (h1 : PE X a (up X.K ta)) : PE X (.BoolOp op [a] pos) (up X.K ta) := pe_one h1
theorem e_not (h1 : PE X a (up X.K ta)) : PE X (.UnaryOp .Not a pos) (up X.K (dNotV ta)) := pe_to (pe_not h1) fun σ H Q q => by
  obtain ⟨c, g, tv, tr, F, ad, post, s, t1, k⟩ := q
  refine ⟨c, g, tv, tr, F, ad, _, s, t1, fun r g1 v1 H1 F1 a1 h1 s1 => ?_⟩
  cases r with
  | val d =>
    cases d with
    | bool b => exact ⟨b, s1.top.bl rfl, k _ g1 _ H1 F1 a1 h1 (s1.pop1.push (r := .val (.bool (!b))) (Rp.bl (!b)))⟩
    | _ => exact h1.elim
  | _ => exact h1.elim
theorem e_if (h : PT X c (upT X.K sa)) (h1 : PE X a (up X.K ta)) (h2 : PE X b (up X.K tb)) : PE X (.IfExp c a b pos) (up X.K (dIf sa ta tb)) := pe_to (pe_ifExp h h1 h2) fun σ H Q q => by
  obtain ⟨c, g, tv, tr, F, ad, post, s, t1, k⟩ := q
  refine ⟨c, g, tv, tr, F, ad, _, s, t1, fun b g1 H1 F1 a1 h1 s1 => ?_⟩
  cases b with
  | true => rw [if_pos rfl]; exact ⟨c, g1, tv, tr, F1, a1, _, s1, h1.1 rfl, k⟩
  | false => rw [if_neg Bool.false_ne_true]; exact ⟨c, g1, tv, tr, F1, a1, _, s1, h1.2 rfl, k⟩
/-- -a -/
def dNeg (ta : DE) : DE := fun g Q => ta g fun r g1 => match r with
  | .val (.int i) => Q (.val (.int (-i))) g1
  | _ => False
theorem e_neg (h1 : PE X a (up X.K ta)) : PE X (.UnaryOp .USub a pos) (up X.K (dNeg ta)) := pe_to (pe_un un_neg h1) fun σ H Q q => by
  obtain ⟨c, g, tv, tr, F, ad, post, s, t1, k⟩ := q
  refine ⟨c, g, tv, tr, F, ad, _, s, t1, fun r g1 v1 H1 F1 a1 h1 s1 => ?_⟩
  cases r with
  | val d =>
    cases d with
    | int i =>
      have hr : Rp X.K F1 v1 (.int i) := s1.top
      cases hr
      exact ⟨i, rfl, k _ g1 _ H1 F1 a1 h1 (s1.pop1.push (r := .val (.int (-i))) (Rp.int (-i)))⟩
    | _ => exact h1.elim
  | _ => exact h1.elim
/-- x is None, x is not None -/
def isNon : Da → Bool
  | .none => true
  | _ => false
def dIsN (neg : Bool) (ta : DE) : DE := fun g Q => ta g fun r g1 => match r with
  | .val d => Q (.val (.bool (if neg then !isNon d else isNon d))) g1
  | _ => False
theorem non_v {K : Fg} {F : Hp} {v : V} {d : Da} (h : Rp K F v d) : decide (v = .non) = isNon d := by
  cases h <;> simp [isNon]
theorem e_isN {j : Nat} {pos' : Pos} (h1 : PE X a (up X.K ta)) : PE X (.Compare a [.Is] [.Constant .none j pos'] pos) (up X.K (dIsN false ta)) := pe_to (pe_cmp (pc_isN h1) rfl) fun σ H Q q => by
  obtain ⟨c, g, tv, tr, F, ad, post, s, t1, k⟩ := q
  refine ⟨c, g, tv, tr, F, ad, _, s, t1, fun r g1 v1 H1 F1 a1 h1 s1 => ?_⟩
  cases r with
  | val d =>
    have hr : Rp X.K F1 v1 d := s1.top
    rw [non_v hr]
    exact k _ g1 _ H1 F1 a1 h1 (s1.pop1.push (r := .val (.bool (isNon d))) (Rp.bl _))
  | _ => exact h1.elim
theorem e_notN {j : Nat} {pos' : Pos} (h1 : PE X a (up X.K ta)) : PE X (.Compare a [.IsNot] [.Constant .none j pos'] pos) (up X.K (dIsN true ta)) := pe_to (pe_cmp (pc_notN h1) rfl) fun σ H Q q => by
  obtain ⟨c, g, tv, tr, F, ad, post, s, t1, k⟩ := q
  refine ⟨c, g, tv, tr, F, ad, _, s, t1, fun r g1 v1 H1 F1 a1 h1 s1 => ?_⟩
  cases r with
  | val d =>
    have hr : Rp X.K F1 v1 d := s1.top
    rw [non_v hr]
    exact k _ g1 _ H1 F1 a1 h1 (s1.pop1.push (r := .val (.bool (!isNon d))) (Rp.bl _))
  | _ => exact h1.elim
/-- a < b < c -/
def dChain (f f' : BinF) (ta tb tc : DE) : DE := fun g Q => ta g fun x g1 => tb g1 fun y g2 => match x, y with
  | .val d, .val e => f d e fun z => match z with
    | .bool true => tc g2 fun w g3 => match w with
      | .val h => f' e h fun z' => Q (.val z') g3
      | _ => False
    | .bool false => Q (.val (.bool false)) g2
    | _ => False
  | _, _ => False
end
end Z

namespace Z
open L2 PySem PySem.Spec PyProof.Rows
open Evl (Ex ex_l ex_t ex_rd fresh_back)
section
variable {X : Cx} {a b c e : Expr} {ta tb tc t : DE} {pos : Pos}
theorem chain_core {r r' : R2} {f f' : BinF} (hf : BinOk X.K r f) (hf' : BinOk X.K r' f') {σ : L2.St} {H : Hp} {Q : VK} (q : up X.K (dChain f f' ta tb tc) σ H Q) : tChain r r' (up X.K ta) (up X.K tb) (up X.K tc) σ H Q := by
  obtain ⟨c, g, tv, tr, F, ad, post, s, t, k⟩ := q
  refine ⟨c, g, tv, tr, F, ad, _, s, t, fun x g1 v1 H1 F1 a1 t1 s1 => ?_⟩
  refine ⟨c, g1, _, _, F1, a1, _, s1, t1, fun y g2 v2 H2 F2 a2 t2 s2 => ?_⟩
  cases x with
  | val d =>
    cases y with
    | val e =>
      have r1 : Rp X.K F2 v1 d := s2.pop1.top
      have r2 : Rp X.K F2 v2 e := s2.top
      refine hf F2 H2 v1 v2 d e _ _ s2.eh r1 r2 t2 fun z v H3 F3 hz gr rz => ?_
      cases z with
      | bool k1 =>
        cases rz
        have s3 := s2.grow gr
        refine ⟨k1, rfl, ?_⟩
        cases k1 with
        | true =>
          rw [if_pos rfl]
          refine ⟨c, g2, _, _, F3, a2, _, s3, hz, fun w g4 v4 H4 F4 a4 t4 s4 => ?_⟩
          cases w with
          | val h =>
            have q2 : Rp X.K F4 v2 e := s4.pop1.top
            have q4 : Rp X.K F4 v4 h := s4.top
            exact hf' F4 H4 v2 v4 e h _ _ s4.eh q2 q4 t4 fun z' v' H5 F5 hz' gr' rz' => k _ g4 v' H5 F5 a4 hz' ((s4.pop1.pop1.pop1.grow gr').push (r := .val z') rz')
          | _ => exact t4.elim
        | false =>
          rw [if_neg Bool.false_ne_true]
          exact k _ g2 _ H3 F3 a2 hz (s3.pop1.pop1.push (r := .val (.bool false)) (Rp.bl false))
      | _ => exact hz.elim
    | _ => exact t2.elim
  | _ => exact t2.elim
theorem e_chain {op op' : CmpOp} {r r' : R2} {f f' : BinF} (ho : OpR X (compareOp op) r) (ho' : OpR X (compareOp op') r') (hf : BinOk X.K r f) (hf' : BinOk X.K r' f') (ha : PE X a (up X.K ta)) (hb : PE X b (up X.K tb)) (hc : PE X c (up X.K tc))
    (hm : lastMarks [op, op'] [b, c] = false := by with_unfolding_all rfl) : PE X (.Compare a [op, op'] [b, c] pos) (up X.K (dChain f f' ta tb tc)) := pe_to (pe_chain ho ho' ha hb hc hm) fun _ _ _ q => chain_core hf hf' q
theorem e_lele (ha : PE X a (up X.K ta)) (hb : PE X b (up X.K tb)) (hc : PE X c (up X.K tc)) (hm : lastMarks [.LtE, .LtE] [b, c] = false := by with_unfolding_all rfl) :
    PE X (.Compare a [.LtE, .LtE] [b, c] pos) (up X.K (dChain (fI0 fun i j => .bool (decide (i ≤ j))) (fI0 fun i j => .bool (decide (i ≤ j))) ta tb tc)) := e_chain op_le op_le ok_I0b ok_I0b ha hb hc hm
theorem e_lelt (ha : PE X a (up X.K ta)) (hb : PE X b (up X.K tb)) (hc : PE X c (up X.K tc)) (hm : lastMarks [.LtE, .Lt] [b, c] = false := by with_unfolding_all rfl) :
    PE X (.Compare a [.LtE, .Lt] [b, c] pos) (up X.K (dChain (fI0 fun i j => .bool (decide (i ≤ j))) (fI0 fun i j => .bool (decide (i < j))) ta tb tc)) := e_chain op_le op_lt ok_I0b ok_I0b ha hb hc hm
end
/-! ### arguments, displays -/
def dNil : DA := fun g Q => Q [] g
def dCons (te : DE) (tr : DA) : DA := fun g Q => te g fun x g1 => tr g1 fun xs g2 => Q (x :: xs) g2
section
variable {K : Fg} {F : Hp} {a : Addr} {fu : Option Nat}
theorem Tm.app : ∀ {xs ys : List V} {rs ts : List Rv}, Tm K F a fu xs rs → Tm K F a fu ys ts → Tm K F a fu (xs ++ ys) (rs ++ ts)
  | _, _, _, _, .nil, s => s
  | _, _, _, _, .cons r t, s => .cons r (t.app s)
theorem Tm.rev : ∀ {xs : List V} {rs : List Rv}, Tm K F a fu xs rs → Tm K F a fu xs.reverse rs.reverse
  | _, _, .nil => .nil
  | _, _, .cons r t => by
    rw [List.reverse_cons, List.reverse_cons]
    exact t.rev.app (.cons r .nil)
theorem Tm.split : ∀ {xs ys : List V} {rs ts : List Rv}, xs.length = rs.length → Tm K F a fu (xs ++ ys) (rs ++ ts) → Tm K F a fu xs rs ∧ Tm K F a fu ys ts
  | [], _, [], _, _, h => ⟨.nil, h⟩
  | [], _, _ :: _, _, e, _ => by simp at e
  | _ :: _, _, [], _, e, _ => by simp at e
  | x :: xs, ys, r :: rs, ts, e, h => by
    have h' : Tm K F a fu (x :: (xs ++ ys)) (r :: (rs ++ ts)) := h
    cases h' with
    | cons h1 h2 =>
      obtain ⟨q1, q2⟩ := Tm.split (by simpa using e) h2
      exact ⟨.cons h1 q1, q2⟩
theorem Tm.args {vs tv : List V} {rs tr : List Rv} (h : Tm K F a fu (vs.reverse ++ tv) (rs.reverse ++ tr)) (e : vs.length = rs.length) : Tm K F a fu vs rs ∧ Tm K F a fu tv tr := by
  obtain ⟨h1, h2⟩ := Tm.split (by simpa using e) h
  have := h1.rev
  rw [List.reverse_reverse, List.reverse_reverse] at this
  exact ⟨this, h2⟩
end
def valsD : List Rv → Option (List Da)
  | [] => some []
  | .val d :: rs => (valsD rs).map (d :: ·)
  | _ :: _ => none
theorem Tm.vals {K : Fg} {F : Hp} {a : Addr} {fu : Option Nat} : ∀ {vs : List V} {rs : List Rv} {ds : List Da}, Tm K F a fu vs rs → valsD rs = some ds → Rps K F vs ds
  | _, _, _, .nil, e => by cases e; exact .nil
  | _, .val d :: rs, ds, .cons h t, e => by
    unfold valsD at e
    cases q : valsD rs with
    | none => rw [q] at e; cases e
    | some es =>
      rw [q] at e
      cases e
      exact .cons h (t.vals q)
  | _, .src :: rs, ds, .cons h t, e => by cases e
  | _, .scr _ :: rs, ds, .cons h t, e => by cases e
def dTup (ta : DA) : DE := fun g Q => ta g fun rs g1 => match valsD rs with
  | some ds => ds.length ≤ 1000000 ∧ Q (.val (.tuple ds)) g1
  | none => False
def dLst (ta : DA) : DL := fun g Q => ta g fun rs g1 => match valsD rs with
  | some ds => ds.length ≤ 1000000 ∧ Q ds g1
  | none => False
def dFz (t : DL) : DE := fun g Q => t g fun ds g1 => Q (.val (.list ds)) g1
theorem mil {n : Nat} (h : n ≤ 1000000) : n ≤ sizeLine := Nat.le_trans h (by decide)
section
variable {K : Fg} {c : Con} {g : Gs} {σ : L2.St} {H F : Hp} {tv : List V} {tr : List Rv} {a : Addr}
/-- the new list stands still from now on -/
theorem Sta.still (s : Sta K c g σ H tv tr F a) {v : V} {ds : List Da} (h : NewL K c g σ H F a v ds) : ∃ F', Sta K c g σ H (v :: tv) (.val (.list ds) :: tr) F' a := by
  obtain ⟨o, xs, rfl, q2, q3, q4, q5, q6, q7⟩ := h.ex
  have ef : Ex F (upd F o (.lst xs)) := Ex.new q2
  have ro : Rp K (upd F o (.lst xs)) (.ref o) (.list ds) := .lst upd_same (q5.up ef)
  refine ⟨upd F o (.lst xs), s.e0.trans ef, fun b u q => ?_, s.keep, fun b q => ?_, s.ex, s.ow, fun n hn => ?_, .cons ro (s.tmp.up ef), s.len, fun j sv hj => ?_, s.dis⟩
  · by_cases hb : b = o
    · subst hb; rw [upd_same] at q; cases q; exact q4
    · rw [upd_ne hb] at q; exact s.eh b u q
  · by_cases hb : b = o
    · subst hb; exact .inr q3
    · rw [upd_ne hb] at q; exact s.new b q
  · obtain ⟨z1, z2⟩ := s.src n hn
    refine ⟨?_, z2⟩
    rw [upd_ne (fun z => q6 (ne_none hn) z.symm)]; exact z1
  · obtain ⟨v, w1, w2⟩ := s.slot j sv hj
    refine ⟨v, w1, ?_⟩
    cases sv with
    | val d => exact Rp.up w2 ef
    | src => exact w2
    | scr ns => obtain ⟨b, z1, z2⟩ := w2; exact ⟨b, z1, ex_l ef z2⟩
    | own es =>
      obtain ⟨o', ys, r1, r2, r3, r4, r5, r6⟩ := w2
      have ne : o' ≠ o := fun z => q7 j es hj (by rw [w1, r1, z])
      exact ⟨o', ys, r1, by rw [upd_ne ne]; exact r2, r3, r4, r5.up ef, r6⟩
/-- a list laid at a free address -/
theorem Sta.laid (s : Sta K c g σ H tv tr F a) {p : Addr} (hp : H p = none) {xs : List V} {ds : List Da} (m : Rps K F xs ds) : Sta K c g σ (upd H p (.lst xs)) tv tr F a ∧ NewL K c g σ (upd H p (.lst xs)) F a (.ref p) ds := by
  have fp : F p = none := fresh_back s.eh hp
  have eH : Ex H (upd H p (.lst xs)) := Ex.new hp
  refine ⟨s.grow ⟨Ex.refl _, eH, s.eh.trans eH, fun b h => .inl h⟩, ⟨p, xs, rfl, fp, s.fresh hp, upd_same, m, fun hf z => ?_, fun i es hi z => ?_⟩⟩
  · cases q : g.fu with
    | none => exact hf q
    | some n =>
      obtain ⟨_, _, x, y, w, e, _⟩ := s.src n q
      rw [← z, hp] at e; cases e
  · obtain ⟨v, w1, o, ys, r1, r2, r3, r4, _⟩ := s.slot i _ hi
    rw [z] at w1
    cases w1
    cases r1
    rw [hp] at r4; cases r4
end
section
variable {X : Cx} {e : Expr} {es : List Expr} {te : DE} {tr : DA} {tl : DL} {pos : Pos}
theorem a_nil : PA X [] (upA X.K dNil) := pa_to pa_nil fun σ H Q q => by
  obtain ⟨c, g, tv, tr, F, ad, post, s, t, k⟩ := q
  exact k [] g [] H F ad t s rfl
theorem a_cons (h : PE X e (up X.K te)) (hr : PA X es (upA X.K tr)) (hs : starEach (e :: es) X.env = (false, eval e X.env) :: starEach es X.env := by rfl) : PA X (e :: es) (upA X.K (dCons te tr)) := pa_to (pa_cons h hr hs) fun σ H Q q => by
  obtain ⟨c, g, tv, tr, F, ad, post, s, t, k⟩ := q
  refine ⟨c, g, tv, tr, F, ad, _, s, t, fun x g1 v1 H1 F1 a1 t1 s1 => ?_⟩
  refine ⟨c, g1, _, _, F1, a1, _, s1, t1, fun xs g2 vs H2 F2 a2 t2 s2 hl => ?_⟩
  refine k (x :: xs) g2 (v1 :: vs) H2 F2 a2 t2 ?_ (by simp [hl])
  rw [List.reverse_cons, List.reverse_cons, List.append_assoc, List.append_assoc]
  exact s2
theorem e_tup {x1 : Nat} (h : PA X es (upA X.K tr)) : PE X (.Tuple es x1 pos) (up X.K (dTup tr)) := pe_to (pe_tup h) fun σ H Q q => by
  obtain ⟨c, g, tv, tr, F, ad, post, s, t, k⟩ := q
  refine ⟨c, g, tv, tr, F, ad, _, s, t, fun rs g1 vs H1 F1 a1 t1 s1 hl => ?_⟩
  cases q : valsD rs with
  | none => rw [q] at t1; exact t1.elim
  | some ds =>
    rw [q] at t1
    obtain ⟨m1, m2⟩ := s1.tmp.args hl
    have hv := m1.vals q
    refine ⟨by rw [hv.len]; exact mil t1.1, fun p hp => ?_⟩
    have gr := Gr.new (o := .tup vs) s1.eh hp
    exact k _ g1 _ _ _ a1 t1.2 (((s1.pop m2).grow gr).push (r := .val (.tuple ds)) (.tup (.inl (.inl upd_same)) (hv.up gr.f)))
theorem e_lstL (h : PA X es (upA X.K tr)) : PE X (.List es pos) (upL X.K (dLst tr)) := pe_to (pe_lst h) fun σ H Q q => by
  obtain ⟨c, g, tv, tr, F, ad, post, s, t, k⟩ := q
  refine ⟨c, g, tv, tr, F, ad, _, s, t, fun rs g1 vs H1 F1 a1 t1 s1 hl => ?_⟩
  cases q : valsD rs with
  | none => rw [q] at t1; exact t1.elim
  | some ds =>
    rw [q] at t1
    obtain ⟨m1, m2⟩ := s1.tmp.args hl
    have hv := m1.vals q
    refine ⟨by rw [hv.len]; exact mil t1.1, fun p hp => ?_⟩
    obtain ⟨s2, n2⟩ := (s1.pop m2).laid hp hv
    exact k ds g1 _ _ F1 a1 t1.2 s2 n2
theorem e_fz (h : PE X e (upL X.K tl)) : PE X e (up X.K (dFz tl)) := pe_to h fun σ H Q q => by
  obtain ⟨c, g, tv, tr, F, ad, post, s, t, k⟩ := q
  refine ⟨c, g, tv, tr, F, ad, _, s, t, fun ds g1 v H1 F1 a1 t1 s1 n1 => ?_⟩
  obtain ⟨F2, s2⟩ := s1.still n1
  exact k _ g1 v H1 F2 a1 t1 s2
theorem e_lst (h : PA X es (upA X.K tr)) : PE X (.List es pos) (up X.K (dFz (dLst tr))) := e_fz (e_lstL h)
end
/-! ### subscripts -/
def dIx (ta tb : DE) : DE := fun g Q => ta g fun x g1 => tb g1 fun y g2 => match x, y with
  | .val (.tuple ds), .val (.int i) => (match atI ds i with | some z => Q (.val z) g2 | none => False)
  | .val (.list ds), .val (.int i) => (match atI ds i with | some z => Q (.val z) g2 | none => False)
  | .scr ns, .val (.int i) => (match atI ns i with | some z => Q (.val (.int z)) g2 | none => False)
  | _, _ => False
theorem atI_get {K : Fg} {F : Hp} {vs : List V} {ds : List Da} {i : Int} {d : Da} (h : Rps K F vs ds) (e : atI ds i = some d) : ∃ v, atI vs i = some v ∧ Rp K F v d := by
  unfold atI at e ⊢
  rw [h.len]
  cases q : ixN ds.length i with
  | none => rw [q] at e; cases e
  | some j =>
    rw [q] at e
    exact h.get e
section
variable {X : Cx} {a b : Expr} {ta tb : DE} {pos : Pos}
theorem e_ix (ha : PE X a (up X.K ta)) (hb : PE X b (up X.K tb)) (hs : PlainIx b := by exact fun _ _ => rfl) : PE X (.Subscript a b pos) (up X.K (dIx ta tb)) := pe_to (pe_ix ix_seq ha hb hs) fun σ H Q q => by
  obtain ⟨c, g, tv, tr, F, ad, post, s, t, k⟩ := q
  refine ⟨c, g, tv, tr, F, ad, _, s, t, fun x g1 v1 H1 F1 a1 t1 s1 => ?_⟩
  refine ⟨c, g1, _, _, F1, a1, _, s1, t1, fun y g2 v2 H2 F2 a2 t2 s2 => ?_⟩
  have hx := s2.pop1.top
  have hy := s2.top
  have s3 := s2.pop1.pop1
  split at t2
  · rename_i ds i
    split at t2
    · rename_i z e
      have hy' : Rp X.K F2 v2 (.int i) := hy
      have hx' : Rp X.K F2 v1 (.tuple ds) := hx
      cases hy'
      cases hx' with
      | tup sq m =>
        obtain ⟨w, e1, e2⟩ := atI_get m e
        exact .inr (.inl ⟨_, _, i, w, rfl, rfl, ex_t s2.eh sq, e1, k _ g2 w H2 F2 a2 t2 (s3.push (r := .val z) e2)⟩)
    · exact t2.elim
  · rename_i ds i
    split at t2
    · rename_i z e
      have hy' : Rp X.K F2 v2 (.int i) := hy
      have hx' : Rp X.K F2 v1 (.list ds) := hx
      cases hy'
      cases hx' with
      | lst sq m =>
        obtain ⟨w, e1, e2⟩ := atI_get m e
        exact .inl ⟨_, _, i, w, rfl, rfl, .inl (.inl (s2.eh _ _ sq)), e1, k _ g2 w H2 F2 a2 t2 (s3.push (r := .val z) e2)⟩
    · exact t2.elim
  · rename_i ns i
    split at t2
    · rename_i z e
      have hy' : Rp X.K F2 v2 (.int i) := hy
      cases hy'
      obtain ⟨p, rfl, sq⟩ := hx
      have e' : atI (ns.map V.int) i = some (.int z) := by
        unfold atI at e ⊢
        rw [List.length_map]
        cases q : ixN ns.length i with
        | none => rw [q] at e; cases e
        | some j =>
          rw [q] at e
          show (ns.map V.int)[j]? = _
          rw [List.getElem?_map, show ns[j]? = some z from e]
          rfl
      exact .inl ⟨p, _, i, _, rfl, rfl, ex_l s2.eh sq, e', k _ g2 _ H2 F2 a2 t2 (s3.push (r := .val (.int z)) (Rp.int z))⟩
    · exact t2.elim
  · exact t2.elim
end
end Z

namespace Z
open L2 PySem PySem.Spec PyProof.Rows
open Evl (Ex ex_l ex_t ex_rd fresh_back)

/-! ### a def's promise, with the guards known (repr asks for them) -/
structure Fn (P : Program) (w : World) (K : Fg) (mg : Str → Option Value) (base : Heap) (CX : CXT) (k : Nat) (f : Addr) (fd : FuncData) (ps : List Str) (sp : Sp) : Prop where
  len : ∀ vs H Q E, sp vs H Q E → vs.length = ps.length
  run : ∀ (A : Around) (outer : List Env) (s : Shared) (H : Hp) (args : Args) (us : List Value) (vs : List V) (Q : VK) (E : XK), Room k A → A.guards = some [] →
    Env0 P w K mg base A outer s H → BindsTo s fd args (ps.zip us) → Vals vs us → sp vs H Q E → codeAny (model P w) A (.call (.ref f) args) (CR CX outer P w H s Q E) s
theorem Fn.mono {P : Program} {w : World} {K : Fg} {mg : Str → Option Value} {base : Heap} {CX : CXT} {j k : Nat} {f : Addr} {fd : FuncData} {ps : List Str} {sp : Sp} (F : Fn P w K mg base CX j f fd ps sp) (h : j ≤ k) : Fn P w K mg base CX k f fd ps sp :=
  ⟨F.len, fun A outer s H args us vs Q E hr hg => F.run A outer s H args us vs Q E (hr.mono h) hg⟩
section
variable {P : Program} {w : World} {K : Fg} {mg : Str → Option Value} {base : Heap} {CX : CXT}
theorem fn_by {x qual : Str} {st : Stmt} {f : Addr} {fd : FuncData} {N ps : List Str} {k : Nat} {sp : Sp} (Fu : Fun K x qual st f fd) (S : FnScope N ps (defScope st)) (len : ∀ vs H Q E, sp vs H Q E → vs.length = ps.length)
    (hbody : ∀ (cdv : Value) (A : Around) (outer : List Env) (s : Shared) (H : Hp) (vs : List V) (Q : VK) (E : XK), Room k (A.deeper (envOfC qual (defScope st) s.heap.objs.size f cdv)) →
      (A.deeper (envOfC qual (defScope st) s.heap.objs.size f cdv)).guards = some [] → sp vs H Q E →
      ∃ t, PSs (cxOf CX P w K mg base N qual (defScope st) f cdv A outer s H E) (defBody st) t ∧ t { nx := fun _ H' => Q .non H', rt := Q } (start N vs) H) : Fn P w K mg base CX (k + 1) f fd ps sp := by
  obtain ⟨oc, od, kV, doc, pm, an, cdv, ct, osl, rfl, lk, hcd⟩ := Fu.ex
  refine ⟨len, fun A outer s H args us vs Q E hr hg e0 hb r hsp => ?_⟩
  have KX : K.In s.heap := e0.mod.kin.keeps fun b o e => (e0.bs b o e).1
  have kinds : ∀ y ∈ ps.zip us, (defScope st).names.lookup y.1 = some .local ∨ ((defScope st).names.lookup y.1 = some .cell ∧ ((cellsFrom (s.heap.objs.size + 1) (defScope st).names []).lookup y.1).isSome = true) := by
    rintro ⟨n, v⟩ hy
    exact (S.par n (List.of_mem_zip hy).1).imp id fun q => ⟨q, PySem.W.cellsFrom_some _ _ _ (.inl q)⟩
  refine codeAny_call_function hr.depth (KX _ _ lk) rfl S.co S.gen rfl (PySem.W.codeRec_of KX hcd) (hb _ _ _ _ (wpAny_newFunctionEnv_cells S.kind kinds fun env he s1 x => ?_))
  subst he
  refine ⟨(e0.mod.nolimit.keeps fun b o e => (e0.bs b o e).1).keeps x.toInCall.keep, codeAny_func ?_⟩
  obtain ⟨t, ht, hq⟩ := hbody cdv A outer s H vs Q E (hr.deeper _) hg hsp
  refine wpAny_mono (ht.run [] s1 (start N vs) H _ (inv_start S hr.hd e0 (len _ _ _ _ hsp) r x) hq) (fun fl s' hs => ?_) fun e s' hs => hs
  match fl, hs with
  | .ret u, ⟨v, σ', H', J, rv, q⟩ => exact ⟨v, H', J.os, J.bare, J.base, J.hok, rv, q⟩
  | .next, ⟨σ', H', J, q⟩ => exact ⟨.non, H', J.os, J.bare, J.base, J.hok, rfl, q⟩
  | .brk, ⟨_, _, _, q⟩ => exact q.elim
  | .cont, ⟨_, _, _, q⟩ => exact q.elim
end
section
variable {X : Cx} {CX : CXT} {k : Nat} {f : Addr} {fd : FuncData} {ps : List Str} {sp : Sp} {dvs : List V} {ds : List Value} {E : XK} {x : Str} {p pos : Pos} {e : Expr} {es : List Expr} {t : TA}
theorem fn_run {pins : List (Addr × Obj)} {σ : L2.St} {H : Hp} {s : Shared} {Q : VK} {args : Args} {us : List Value} {vs : List V} (F : Fn X.prog X.w X.K X.mg X.base CX k f fd ps sp) (hr : Room k X.A) (hg : X.A.guards = some []) (hx : Passes CX X E)
    (I : Inv X pins σ H s) (hb : BindsTo s fd args (ps.zip us)) (r : Vals vs us) (h : sp vs H Q E) : codeAny (model X.prog X.w) X.A (.call (.ref f) args) (fun r s' => match r with
      | .ok (.ret u) => EP X pins σ Q u s'
      | .ok _ => False
      | .error e => X.xe e s') s := by
  refine codeAny_mono (F.run X.A X.stack s H args us vs Q E hr hg I.env0 hb r h) fun r s' hq => ?_
  match r, hq with
  | .error e, hq => exact hx pins σ H s e s' I hq
  | .ok (.ret u), hq => exact I.after hq
  | .ok .next, hq => exact False.elim hq
  | .ok .brk, hq => exact False.elim hq
  | .ok .cont, hq => exact False.elim hq
theorem call_fin {pins : List (Addr × Obj)} {σ : L2.St} {H : Hp} {s : Shared} {Q : VK} {us : List Value} {vs : List V} (F : Fn X.prog X.w X.K X.mg X.base CX k f fd ps sp) (hr : Room k X.A) (hg : X.A.guards = some []) (hx : Passes CX X E)
    (I : Inv X pins σ H s) (hb : Binds X.K fd ps []) (r : Vals vs us) (h : sp vs H Q E) : wpAny (model X.prog X.w) X.A (call (.ref f) us) (EP X pins σ Q) X.xe s := by
  have hl : us.length = ps.length := by rw [← r.length]; exact F.len _ _ _ _ h
  have hb' := hb s us I.kIn (by rw [List.append_nil]; exact hl)
  rw [List.append_nil] at hb'
  refine wpAny_call (codeAny_mono (fn_run F hr hg hx I hb' r h) fun r s' hq => ?_)
  match r, hq with
  | .error e, hq => exact hq
  | .ok (.ret u), hq => exact hq
  | .ok .next, hq => exact hq.elim
  | .ok .brk, hq => exact hq.elim
  | .ok .cont, hq => exact hq.elim
theorem pe_fn (F : Fn X.prog X.w X.K X.mg X.base CX k f fd ps sp) (hr : Room k X.A) (hgd : X.A.guards = some []) (hg : Gl X x) (hm : X.mg x = some (.ref f)) (hk : PySem.W.keepIn X.K (.ref f) = true) (hb : Binds X.K fd ps []) (hx : Passes CX X E)
    (ha : PA X (e :: es) t) (hdb : (x == ("__debug__" : Str)) = false := by decide) (he : starEach (e :: es) X.env = (false, eval e X.env) :: starEach es X.env := by rfl) (hpl : (backTo pos (starEach es X.env)).any (·.1) = false := by rfl) :
    PE X (.Call (.Name x p) (e :: es) [] pos) (fun σ H Q => t σ H fun vs H1 => sp vs H1 Q E) :=
  ⟨fun pins s σ H Q I h => wpAny_Call_Name_kw (ld_glob I hg hm (PySem.W.callWith_K (h₀ := X.base) I.ok.mod.kin hk (thn (ha.run pos pins s σ H _ I h) fun us s1 ⟨vs, H1, I1, r, q⟩ => ⟨I1.kIn, call_fin F hr hgd hx I1 hb r q⟩) he hpl) hdb)⟩
theorem pe_fn0 (F : Fn X.prog X.w X.K X.mg X.base CX k f fd ps sp) (hr : Room k X.A) (hgd : X.A.guards = some []) (hg : Gl X x) (hm : X.mg x = some (.ref f)) (hk : PySem.W.keepIn X.K (.ref f) = true) (hb : Binds X.K fd ps []) (hx : Passes CX X E)
    (hdb : (x == ("__debug__" : Str)) = false := by decide) : PE X (.Call (.Name x p) [] [] pos) (fun σ H Q => sp [] H Q E) :=
  ⟨fun pins s σ H Q I h => wpAny_Call_Name_kw (ld_glob I hg hm (PySem.W.callWith_K0 I.kIn hk (call_fin (us := []) F hr hgd hx I hb .nil h)) hdb)⟩
end

/-! ### promises by data -/
abbrev FSp := List Rv → Option Nat → (Rr → Option Nat → Prop) → Prop
def RrOk (K : Fg) (F' H H' : Hp) (v : V) : Rr → Prop
  | .val d => Rp K F' v d
  | .own ds => ∃ o xs, v = .ref o ∧ H o = none ∧ F' o = none ∧ H' o = some (.lst xs) ∧ Rps K F' xs ds
/-- how a call lies behind: still part, heap, source -/
structure Out (K : Fg) (F H : Hp) (a : Addr) (fu : Option Nat) (fu' : Option Nat) (F' H' : Hp) (v : V) (r : Rr) : Prop where
  f : Ex F F'
  s : Ex F' H'
  keep : ∀ b o, (fu ≠ none → b ≠ a) → H b = some o → H' b = some o
  new : ∀ b, F' b ≠ none → F b ≠ none ∨ H b = none
  src : fu ≠ none → ∃ n, fu' = some n ∧ F' a = none ∧ SrcAt H' a n
  rep : RrOk K F' H H' v r
def lift (K : Fg) (np : Nat) (fs : FSp) : Sp := fun vs H Q _ => ∃ F a rs fu post, Ex F H ∧ Tm K F a fu vs rs ∧ vs.length = np ∧ (∀ n, fu = some n → F a = none ∧ SrcAt H a n) ∧ fs rs fu post ∧
  ∀ r fu' v H' F', post r fu' → Out K F H a fu fu' F' H' v r → Q v H'
theorem lift_len {K : Fg} {np : Nat} {fs : FSp} (vs : List V) (H : Hp) (Q : VK) (E : XK) (h : lift K np fs vs H Q E) : vs.length = np := by
  obtain ⟨_, _, _, _, _, _, _, h, _⟩ := h
  exact h
def rrv : Rr → Rv
  | .val d => .val d
  | .own ds => .val (.list ds)
def dCall (np : Nat) (fs : FSp) (ta : DA) : DE := fun g Q => ta g fun rs g1 => rs.length = np ∧ match hasSrc rs with
  | true => fs rs g1.fu fun r fu' => Q (rrv r) { g1 with fu := fu' }
  | false => fs rs none fun r _ => Q (rrv r) g1
def dCallL (np : Nat) (fs : FSp) (ta : DA) : DL := fun g Q => ta g fun rs g1 => rs.length = np ∧ match hasSrc rs with
  | true => fs rs g1.fu fun r fu' => match r with | .own ds => Q ds { g1 with fu := fu' } | _ => False
  | false => fs rs none fun r _ => match r with | .own ds => Q ds g1 | _ => False
section
variable {K : Fg} {c : Con} {g : Gs} {σ : L2.St} {H F H' F' : Hp} {tv : List V} {tr : List Rv} {a : Addr}
theorem Tm.noSrc : ∀ {vs : List V} {rs : List Rv} {fu : Option Nat}, hasSrc rs = false → Tm K F a fu vs rs → Tm K F a none vs rs
  | _, _, _, _, .nil => .nil
  | _, .val d :: rs, _, h, .cons r t => .cons (show Rp K F _ d from r) (t.noSrc h)
  | _, .scr d :: rs, _, h, .cons r t => .cons r (t.noSrc h)
  | _, .src :: rs, _, h, .cons r t => by cases h
theorem Tm.fu_ne : ∀ {vs : List V} {rs : List Rv} {fu : Option Nat}, hasSrc rs = true → Tm K F a fu vs rs → fu ≠ none
  | _, _, _, h, .nil => by cases h
  | _, .val d :: rs, _, h, .cons r t => Tm.fu_ne (rs := rs) h t
  | _, .scr d :: rs, _, h, .cons r t => Tm.fu_ne (rs := rs) h t
  | _, .src :: rs, _, h, .cons r t => r.2
theorem Tm.refu {fu fu' : Option Nat} (hf : fu' ≠ none) : ∀ {vs : List V} {rs : List Rv}, Tm K F a fu vs rs → Tm K F a fu' vs rs
  | _, _, .nil => .nil
  | _, .val d :: rs, .cons r t => .cons (show Rp K F _ d from r) (t.refu hf)
  | _, .scr d :: rs, .cons r t => .cons r (t.refu hf)
  | _, .src :: rs, .cons r t => .cons ⟨r.1, hf⟩ (t.refu hf)
/-- behind a call that had the source -/
theorem Sta.after1 (s : Sta K c g σ H tv tr F a) {v : V} {r : Rr} {fu' : Option Nat} (hf : g.fu ≠ none) (o : Out K F H a g.fu fu' F' H' v r) : Sta K c { g with fu := fu' } σ H' tv tr F' a := by
  obtain ⟨n', e', na, sa⟩ := o.src hf
  have ne' : fu' ≠ none := ne_none e'
  have oldF : ∀ b, H b ≠ none → F b = none → F' b = none := fun b h1 h2 => by
    cases q : F' b with
    | none => rfl
    | some u =>
      rcases o.new b (ne_none q) with z | z
      · exact absurd h2 z
      · exact absurd z h1
  obtain ⟨n0, e0⟩ : ∃ n, g.fu = some n := by cases q : g.fu with
    | none => exact absurd q hf
    | some n => exact ⟨n, rfl⟩
  obtain ⟨_, sx, _⟩ := s.src n0 e0
  refine ⟨s.e0.trans o.f, o.s, fun b u h1 h2 => ?_, fun b q => ?_, fun b h => ⟨(s.ex b h).1, ne'⟩, s.ow, fun n h => ?_, (s.tmp.up o.f).refu ne', s.len, fun i sv h => ?_, s.dis⟩
  · refine o.keep b u (fun _ z => ?_) (s.keep b u h1 h2)
    subst z
    rcases sx with z | ⟨_, z⟩
    · exact h1 z
    · rw [h2] at z; cases z
  · rcases o.new b q with z | z
    · exact s.new b z
    · exact .inr (s.fresh z)
  · have h' : fu' = some n := h
    rw [e'] at h'; cases h'
    exact ⟨na, sx, sa⟩
  · obtain ⟨v, w1, w2⟩ := s.slot i sv h
    refine ⟨v, w1, ?_⟩
    cases sv with
    | val d => exact Rp.up w2 o.f
    | src => exact ⟨w2.1, ne'⟩
    | scr ns => obtain ⟨b, z1, z2⟩ := w2; exact ⟨b, z1, ex_l o.f z2⟩
    | own ds =>
      obtain ⟨p, xs, q1, q2, q3, q4, q5, q6⟩ := w2
      exact ⟨p, xs, q1, oldF p (ne_none q4) q2, q3, o.keep p _ (fun _ => q6 hf) q4, q5.up o.f, fun _ => q6 hf⟩
/-- behind a call that had it not -/
theorem Sta.after0 (s : Sta K c g σ H tv tr F a) {v : V} {r : Rr} {fu' : Option Nat} {b : Addr} (o : Out K F H b none fu' F' H' v r) : Sta K c g σ H' tv tr F' a :=
  s.grow ⟨o.f, fun x u h => o.keep x u (fun z => absurd rfl z) h, o.s, o.new⟩
theorem NewL.of (s : Sta K c g σ H tv tr F a) {g' : Gs} (hs : g'.sl = g.sl) (hfu : g'.fu ≠ none → g.fu ≠ none) {v : V} {ds : List Da} (h : RrOk K F' H H' v (.own ds)) : NewL K c g' σ H' F' a v ds := by
  obtain ⟨o, xs, rfl, q1, q2, q3, q4⟩ := h
  refine ⟨o, xs, rfl, q2, s.fresh q1, q3, q4, fun hf z => ?_, fun i es hi z => ?_⟩
  · cases q : g.fu with
    | none => exact hfu hf q
    | some n =>
      obtain ⟨_, _, x, y, w, e, _⟩ := s.src n q
      rw [← z, q1] at e; cases e
  · rw [hs] at hi
    obtain ⟨v, w1, o', ys, r1, r2, r3, r4, _⟩ := s.slot i _ hi
    rw [z] at w1
    cases w1
    cases r1
    rw [q1] at r4; cases r4
end
section
variable {X : Cx} {k : Nat} {f : Addr} {fd : FuncData} {ps : List Str} {fs : FSp} {x : Str} {p pos : Pos} {e : Expr} {es : List Expr} {tr : DA} {np : Nat} {E : XK} {CX : CXT}
theorem lift_core : ∀ σ H Q, up X.K (dCall np fs tr) σ H Q → upA X.K tr σ H fun vs H1 => lift X.K np fs vs H1 Q E := fun σ H Q q => by
  obtain ⟨c, g, tv, tr, F, ad, post, s, t, k⟩ := q
  refine ⟨c, g, tv, tr, F, ad, _, s, t, fun rs g1 vs H1 F1 a1 t1 s1 hl => ?_⟩
  obtain ⟨hn, t1⟩ := t1
  rw [← hl] at hn
  obtain ⟨m1, m2⟩ := s1.tmp.args hl
  have s2 := s1.pop m2
  cases q : hasSrc rs with
  | true =>
    rw [q] at t1
    have hf := m1.fu_ne q
    refine ⟨F1, a1, rs, g1.fu, _, s1.eh, m1, hn, fun n h => ⟨(s1.src n h).1, (s1.src n h).2.2⟩, t1, fun r fu' v H' F' hp o => ?_⟩
    have s3 := s2.after1 hf o
    cases r with
    | val d => exact k _ _ v H' F' a1 hp (s3.push (r := .val d) o.rep)
    | own ds =>
      obtain ⟨F'', s4⟩ := s3.still (NewL.of (g' := { g1 with fu := fu' }) s2 rfl (fun _ => hf) o.rep)
      exact k _ _ v H' F'' a1 hp s4
  | false =>
    rw [q] at t1
    refine ⟨F1, a1, rs, none, _, s1.eh, m1.noSrc q, hn, fun n h => by (cases h), t1, fun r fu' v H' F' hp o => ?_⟩
    have s3 := s2.after0 o
    cases r with
    | val d => exact k _ _ v H' F' a1 hp (s3.push (r := .val d) o.rep)
    | own ds =>
      obtain ⟨F'', s4⟩ := s3.still (NewL.of s2 rfl id o.rep)
      exact k _ _ v H' F'' a1 hp s4
theorem liftL_core : ∀ σ H Q, upL X.K (dCallL np fs tr) σ H Q → upA X.K tr σ H fun vs H1 => lift X.K np fs vs H1 Q E := fun σ H Q q => by
  obtain ⟨c, g, tv, tr, F, ad, post, s, t, k⟩ := q
  refine ⟨c, g, tv, tr, F, ad, _, s, t, fun rs g1 vs H1 F1 a1 t1 s1 hl => ?_⟩
  obtain ⟨hn, t1⟩ := t1
  rw [← hl] at hn
  obtain ⟨m1, m2⟩ := s1.tmp.args hl
  have s2 := s1.pop m2
  cases q : hasSrc rs with
  | true =>
    rw [q] at t1
    have hf := m1.fu_ne q
    refine ⟨F1, a1, rs, g1.fu, _, s1.eh, m1, hn, fun n h => ⟨(s1.src n h).1, (s1.src n h).2.2⟩, t1, fun r fu' v H' F' hp o => ?_⟩
    have s3 := s2.after1 hf o
    cases r with
    | val d => exact hp.elim
    | own ds => exact k _ _ v H' F' a1 hp s3 (NewL.of (g' := { g1 with fu := fu' }) s2 rfl (fun _ => hf) o.rep)
  | false =>
    rw [q] at t1
    refine ⟨F1, a1, rs, none, _, s1.eh, m1.noSrc q, hn, fun n h => by (cases h), t1, fun r fu' v H' F' hp o => ?_⟩
    have s3 := s2.after0 o
    cases r with
    | val d => exact hp.elim
    | own ds => exact k _ _ v H' F' a1 hp s3 (NewL.of s2 rfl id o.rep)
theorem e_call (G : Fn X.prog X.w X.K X.mg X.base CX k f fd ps (lift X.K np fs)) (hr : Room k X.A) (hgd : X.A.guards = some []) (hg : Gl X x) (hm : X.mg x = some (.ref f)) (hk : PySem.W.keepIn X.K (.ref f) = true) (hb : Binds X.K fd ps []) (hx : Passes CX X E)
    (ha : PA X (e :: es) (upA X.K tr)) (hdb : (x == ("__debug__" : Str)) = false := by decide) (he : starEach (e :: es) X.env = (false, eval e X.env) :: starEach es X.env := by rfl) (hpl : (backTo pos (starEach es X.env)).any (·.1) = false := by rfl) :
    PE X (.Call (.Name x p) (e :: es) [] pos) (up X.K (dCall np fs tr)) := pe_to (pe_fn G hr hgd hg hm hk hb hx ha hdb he hpl) lift_core
theorem e_callL (G : Fn X.prog X.w X.K X.mg X.base CX k f fd ps (lift X.K np fs)) (hr : Room k X.A) (hgd : X.A.guards = some []) (hg : Gl X x) (hm : X.mg x = some (.ref f)) (hk : PySem.W.keepIn X.K (.ref f) = true) (hb : Binds X.K fd ps []) (hx : Passes CX X E)
    (ha : PA X (e :: es) (upA X.K tr)) (hdb : (x == ("__debug__" : Str)) = false := by decide) (he : starEach (e :: es) X.env = (false, eval e X.env) :: starEach es X.env := by rfl) (hpl : (backTo pos (starEach es X.env)).any (·.1) = false := by rfl) :
    PE X (.Call (.Name x p) (e :: es) [] pos) (upL X.K (dCallL np fs tr)) := pe_to (pe_fn G hr hgd hg hm hk hb hx ha hdb he hpl) liftL_core
theorem e_call0 (G : Fn X.prog X.w X.K X.mg X.base CX k f fd ps (lift X.K 0 fs)) (hr : Room k X.A) (hgd : X.A.guards = some []) (hg : Gl X x) (hm : X.mg x = some (.ref f)) (hk : PySem.W.keepIn X.K (.ref f) = true) (hb : Binds X.K fd ps []) (hx : Passes CX X E)
    (hdb : (x == ("__debug__" : Str)) = false := by decide) : PE X (.Call (.Name x p) [] [] pos) (up X.K (dCall 0 fs dNil)) := pe_to (pe_fn0 G hr hgd hg hm hk hb hx hdb) fun σ H Q q => by
  have h := lift_core (X := X) (E := E) σ H Q q
  obtain ⟨c, g, tv, tr, F, ad, post, s, t, k⟩ := h
  exact k [] g [] H F ad t s rfl
end
end Z

namespace Z
open L2 PySem PySem.Spec PyProof.Rows
open Evl (Ex ex_l ex_t ex_rd fresh_back)

/-! ### stores -/
def rsv : Rv → Sv
  | .val d => .val d
  | .src => .src
  | .scr ns => .scr ns
section
variable {K : Fg} {c : Con} {g : Gs} {σ : L2.St} {H F : Hp} {tv : List V} {tr : List Rv} {a : Addr}
theorem set_some {α : Type} {l : List α} {i j : Nat} {x y : α} (h : (l.set i x)[j]? = some y) : (j = i ∧ j < l.length ∧ y = x) ∨ (j ≠ i ∧ l[j]? = some y) := by
  by_cases e : j = i
  · subst e
    have hl : j < (l.set j x).length := (List.getElem?_eq_some_iff.mp h).1
    rw [List.length_set] at hl
    rw [List.getElem?_set_self hl] at h
    cases h
    exact .inl ⟨rfl, hl, rfl⟩
  · rw [List.getElem?_set_ne (Ne.symm e)] at h
    exact .inr ⟨e, h⟩
theorem Sta.set {v : V} {r : Rv} (s : Sta K c g σ H (v :: tv) (r :: tr) F a) (i : Nat) : Sta K c (g.set i (rsv r)) (σ.set i (some v)) H tv tr F a := by
  have hr := s.top
  have s0 := s.pop1
  refine ⟨s0.e0, s0.eh, s0.keep, s0.new, s0.ex, s0.ow, s0.src, s0.tmp, ?_, fun j sv hj => ?_, fun j k ds es hjk hj hk => ?_⟩
  · show (σ.set i _).length = (g.sl.set i _).length
    rw [List.length_set, List.length_set]; exact s0.len
  · rcases set_some (show (g.sl.set i (some (rsv r)))[j]? = some (some sv) from hj) with ⟨rfl, hl, e⟩ | ⟨ne, e⟩
    · cases e
      refine ⟨v, List.getElem?_set_self (by rw [s0.len]; exact hl), ?_⟩
      cases r with
      | val d => exact hr
      | src => exact hr
      | scr ns => exact hr
    · obtain ⟨w, h1, h2⟩ := s0.slot j sv e
      exact ⟨w, by rw [List.getElem?_set_ne (Ne.symm ne)]; exact h1, h2⟩
  · have no : ∀ k fs, (g.sl.set i (some (rsv r)))[k]? = some (some (Sv.own fs)) → k ≠ i ∧ g.sl[k]? = some (some (Sv.own fs)) := fun k fs h => by
      rcases set_some h with ⟨_, _, e⟩ | z
      · cases r <;> cases e
      · exact z
    obtain ⟨n1, e1⟩ := no j ds hj
    obtain ⟨n2, e2⟩ := no k es hk
    rw [List.getElem?_set_ne (Ne.symm n1), List.getElem?_set_ne (Ne.symm n2)]
    exact s0.dis j k ds es hjk e1 e2
theorem Sta.setOwn (s : Sta K c g σ H tv tr F a) {v : V} {ds : List Da} (h : NewL K c g σ H F a v ds) (i : Nat) : Sta K c (g.set i (.own ds)) (σ.set i (some v)) H tv tr F a := by
  obtain ⟨o, xs, rfl, q2, q3, q4, q5, q6, q7⟩ := h.ex
  refine ⟨s.e0, s.eh, s.keep, s.new, s.ex, s.ow, s.src, s.tmp, ?_, fun j sv hj => ?_, fun j k es fs hjk hj hk => ?_⟩
  · show (σ.set i _).length = (g.sl.set i _).length
    rw [List.length_set, List.length_set]; exact s.len
  · rcases set_some (show (g.sl.set i (some (Sv.own ds)))[j]? = some (some sv) from hj) with ⟨rfl, hl, e⟩ | ⟨ne, e⟩
    · cases e
      exact ⟨_, List.getElem?_set_self (by rw [s.len]; exact hl), o, xs, rfl, q2, q3, q4, q5, q6⟩
    · obtain ⟨w, h1, h2⟩ := s.slot j sv e
      exact ⟨w, by rw [List.getElem?_set_ne (Ne.symm ne)]; exact h1, h2⟩
  · rcases set_some (show (g.sl.set i (some (Sv.own ds)))[j]? = some (some (Sv.own es)) from hj) with ⟨rfl, hl, e⟩ | ⟨nj, ej⟩
    · rcases set_some (show (g.sl.set j (some (Sv.own ds)))[k]? = some (some (Sv.own fs)) from hk) with ⟨rfl, _, _⟩ | ⟨nk, ek⟩
      · exact absurd rfl hjk
      · rw [List.getElem?_set_self (by rw [s.len]; exact hl), List.getElem?_set_ne (Ne.symm nk)]
        exact fun z => q7 k fs ek z.symm
    · rcases set_some (show (g.sl.set i (some (Sv.own ds)))[k]? = some (some (Sv.own fs)) from hk) with ⟨rfl, hl, _⟩ | ⟨nk, ek⟩
      · rw [List.getElem?_set_self (by rw [s.len]; exact hl), List.getElem?_set_ne (Ne.symm nj)]
        exact q7 j es ej
      · rw [List.getElem?_set_ne (Ne.symm nj), List.getElem?_set_ne (Ne.symm nk)]
        exact s.dis j k es fs hjk ej ek
/-- an own list changes -/
theorem Sta.mut (s : Sta K c g σ H tv tr F a) {i : Nat} {o : Addr} {ds es : List Da} {ys : List V} (h : g.sl[i]? = some (some (.own ds))) (ho : σ[i]? = some (some (.ref o))) (hy : Rps K F ys es) :
    Sta K c (g.set i (.own es)) σ (upd H o (.lst ys)) tv tr F a := by
  obtain ⟨v, h1, o', xs, rfl, q2, q3, q4, q5, q6⟩ := s.slot i _ h
  rw [ho] at h1
  cases h1
  have hi : i < g.sl.length := (List.getElem?_eq_some_iff.mp h).1
  refine ⟨s.e0, fun b u q => ?_, fun b u z1 z2 => ?_, s.new, s.ex, s.ow, fun n hn => ?_, s.tmp, ?_, fun j sv hj => ?_, fun j k e1 e2 hjk hj hk => ?_⟩
  · have nb : b ≠ o := fun z => by rw [z, q2] at q; cases q
    rw [upd_ne nb]; exact s.eh b u q
  · have nb : b ≠ o := fun z => by rw [z, q3] at z2; cases z2
    rw [upd_ne nb]; exact s.keep b u z1 z2
  · obtain ⟨z1, z2, x, y, z, e, z3⟩ := s.src n hn
    exact ⟨z1, z2, x, y, z, by rw [upd_ne (fun w => q6 (ne_none hn) w.symm)]; exact e, z3⟩
  · show σ.length = (g.sl.set i _).length
    rw [List.length_set]; exact s.len
  · rcases set_some (show (g.sl.set i (some (Sv.own es)))[j]? = some (some sv) from hj) with ⟨rfl, hl, e⟩ | ⟨ne, e⟩
    · cases e
      exact ⟨_, ho, o, ys, rfl, q2, q3, upd_same, hy, q6⟩
    · obtain ⟨w, h1, h2⟩ := s.slot j sv e
      refine ⟨w, h1, ?_⟩
      cases sv with
      | val d => exact h2
      | src => exact h2
      | scr ns => exact h2
      | own fs =>
        obtain ⟨p, zs, r1, r2, r3, r4, r5, r6⟩ := h2
        have np : p ≠ o := fun z => s.dis j i fs ds ne e h (by rw [h1, ho, r1, z])
        exact ⟨p, zs, r1, r2, r3, by rw [upd_ne np]; exact r4, r5, r6⟩
  · have back : ∀ k e, (g.sl.set i (some (Sv.own es)))[k]? = some (some (Sv.own e)) → ∃ e', g.sl[k]? = some (some (Sv.own e')) := fun k e hk => by
      rcases set_some hk with ⟨rfl, _, _⟩ | ⟨_, z⟩
      · exact ⟨_, h⟩
      · exact ⟨_, z⟩
    obtain ⟨f1, w1⟩ := back j e1 hj
    obtain ⟨f2, w2⟩ := back k e2 hk
    exact s.dis j k f1 f2 hjk w1 w2
end

/-! ### targets -/
abbrev DG := Rv → Gs → (Gs → Prop) → Prop
abbrev DGs := List Da → Gs → (Gs → Prop) → Prop
def upG (K : Fg) (t : DG) : TG := fun v σ H Q => ∃ c g tv tr F a r post, Sta K c g σ H (v :: tv) (r :: tr) F a ∧ t r g post ∧ ∀ g' σ' H' F' a', post g' → Sta K c g' σ' H' tv tr F' a' → Q σ' H'
def upGs (K : Fg) (t : DGs) : TGs := fun vs σ H Q => ∃ c g tv tr F a ds post, Sta K c g σ H (vs ++ tv) (ds.map Rv.val ++ tr) F a ∧ vs.length = ds.length ∧ t ds g post ∧ ∀ g' σ' H' F' a', post g' → Sta K c g' σ' H' tv tr F' a' → Q σ' H'
def dN (i : Nat) : DG := fun r g Q => Q (g.set i (rsv r))
def dT (n : Nat) (t : DGs) : DG := fun r g Q => match r with
  | .val (.tuple ds) => ds.length = n ∧ t ds g Q
  | _ => False
def dTn : DGs := fun ds g Q => match ds with
  | [] => Q g
  | _ => False
def dTc (t : DG) (u : DGs) : DGs := fun ds g Q => match ds with
  | d :: r => t (.val d) g fun g1 => u r g1 Q
  | [] => False
section
variable {X : Cx} {pos : Pos} {e : Expr} {es : List Expr}
theorem pg_to {t t' : TG} (h : PG X e t) (i : ∀ v σ H Q, t' v σ H Q → t v σ H Q) : PG X e t' := ⟨fun pins s v u σ H Q I r q => h.run pins s v u σ H Q I r (i _ _ _ _ q)⟩
theorem pgs_to {t t' : TGs} (h : PGs X es t) (i : ∀ v σ H Q, t' v σ H Q → t v σ H Q) : PGs X es t' := ⟨fun pins s v u σ H Q I r q => h.run pins s v u σ H Q I r (i _ _ _ _ q)⟩
theorem Tm.ofRps {K : Fg} {F : Hp} {a : Addr} {fu : Option Nat} : ∀ {vs : List V} {ds : List Da}, Rps K F vs ds → Tm K F a fu vs (ds.map Rv.val)
  | _, _, .nil => .nil
  | _, _, .cons h t => .cons h (Tm.ofRps t)
theorem g_name {i : Nat} (h : PG X e (gName i)) : PG X e (upG X.K (dN i)) := pg_to h fun v σ H Q q => by
  obtain ⟨c, g, tv, tr, F, a, r, post, s, t, k⟩ := q
  exact k _ _ H F a t (s.set i)
theorem gs_nil : PGs X [] (upGs X.K dTn) := pgs_to pgs_nil fun vs σ H Q q => by
  obtain ⟨c, g, tv, tr, F, a, ds, post, s, hl, t, k⟩ := q
  cases ds with
  | nil =>
    have : vs = [] := List.length_eq_zero_iff.mp hl
    subst this
    exact ⟨rfl, k _ _ H F a t s⟩
  | cons d r => exact t.elim
theorem gs_cons {t : DG} {u : DGs} (h : PG X e (upG X.K t)) (hr : PGs X es (upGs X.K u)) (hs : (assignEach (e :: es) X.env).map (·.2) = assign e X.env :: (assignEach es X.env).map (·.2) := by rfl) : PGs X (e :: es) (upGs X.K (dTc t u)) := pgs_to (pgs_cons h hr hs) fun vs σ H Q q => by
  obtain ⟨c, g, tv, tr, F, a, ds, post, s, hl, t, k⟩ := q
  cases ds with
  | nil => exact t.elim
  | cons d r =>
    cases vs with
    | nil => simp at hl
    | cons v vs =>
      refine ⟨v, vs, rfl, c, g, _, _, F, a, _, _, s, t, fun g1 σ1 H1 F1 a1 t1 s1 => ?_⟩
      exact ⟨c, g1, tv, tr, F1, a1, r, _, s1, by simpa using hl, t1, k⟩
theorem g_tup {n k : Nat} {t : DGs} (hc : X.calm = true) (h : PGs X es (upGs X.K t)) (hn : (assignEach es X.env).length = n := by rfl) (hf : List.findIdx? (fun x => x.1) (assignEach es X.env) = none := by rfl) : PG X (.Tuple es k pos) (upG X.K (dT n t)) :=
  pg_to (pg_tup hc h hn hf) fun v σ H Q q => by
  obtain ⟨c, g, tv, tr, F, a, r, post, s, t, k⟩ := q
  cases r with
  | val d =>
    cases d with
    | tuple ds =>
      have hr : Rp X.K F v (.tuple ds) := s.top
      cases hr with
      | tup sq m =>
        refine ⟨_, _, rfl, ex_t s.eh sq, by rw [m.len]; exact t.1, c, g, tv, tr, F, a, ds, post, s.pop ((Tm.ofRps m).app s.pop1.tmp), m.len, t.2, k⟩
    | _ => exact t.elim
  | _ => exact t.elim
end

/-! ### statements -/
def dAsg (te : DE) (t : DG) : DS := fun d g => te g fun r g1 => t r g1 d.nx
def dSetL (i : Nat) (tl : DL) : DS := fun d g => tl g fun ds g1 => d.nx (g1.set i (.own ds))
def dSeq (t u : DS) : DS := fun d g => t { d with nx := u d } g
def dNext : DS := fun d g => d.nx g
def dIfS (c : DT) (t u : DS) : DS := fun d g => c g fun b g1 => (b = true → t d g1) ∧ (b = false → u d g1)
def dRet (te : DE) : DS := fun d g => te g fun r g1 => match r with
  | .val x => d.rt (.val x) g1
  | _ => False
def dRetL (tl : DL) : DS := fun d g => tl g fun ds g1 => d.rt (.own ds) g1
def dDrop (te : DE) : DS := fun d g => te g fun _ g1 => d.nx g1
def dNever : DS := fun _ _ => False
def dBrk : DS := fun d g => d.bk g
def dCnt : DS := fun d g => d.ct g
def dAug (i : Nat) (f : BinF) (te : DE) : DS := fun d g => match g.sl[i]? with
  | some (some (.val x)) => te g fun r g1 => match r with
    | .val y => f x y fun z => d.nx (g1.set i (.val z))
    | _ => False
  | _ => False
def dPar (i j : Nat) (ta tb : DE) : DS := fun d g => ta g fun r g1 => tb g1 fun s g2 => d.nx ((g2.set i (rsv r)).set j (rsv s))
def dPar3 (i j l : Nat) (ta tb tc : DE) : DS := fun d g => ta g fun r g1 => tb g1 fun s g2 => tc g2 fun q g3 => d.nx (((g3.set i (rsv r)).set j (rsv s)).set l (rsv q))
/-- a, b = [..], constant -/
def dParL (i j : Nat) (tl : DL) (x : Da) : DS := fun d g => tl g fun ds g1 => d.nx ((g1.set i (.own ds)).set j (.val x))
def dApp (i : Nat) (te : DE) : DS := fun d g => (∃ ds, g.sl[i]? = some (some (.own ds))) ∧ te g fun r g1 => match r with
  | .val z => (match g1.sl[i]? with
    | some (some (.own ds)) => ds.length < 1000000 ∧ d.nx (g1.set i (.own (ds ++ [z])))
    | _ => False)
  | _ => False
def dExt (i : Nat) (te : DE) : DS := fun d g => (∃ ds, g.sl[i]? = some (some (.own ds))) ∧ te g fun r g1 => match r with
  | .val (.list zs) => (match g1.sl[i]? with
    | some (some (.own ds)) => ds.length + zs.length ≤ 1000000 ∧ d.nx (g1.set i (.own (ds ++ zs)))
    | _ => False)
  | _ => False
def dWhile (c : DT) (tb : DS) : DS := fun d g => ∃ W : Nat → Gs → Prop, (∃ m, W m g) ∧ ∀ m g, W m g → c g fun b g1 =>
  (b = true → tb { d with nx := fun g2 => ∃ m', m' < m ∧ W m' g2, ct := fun g2 => ∃ m', m' < m ∧ W m' g2, bk := d.nx } g1) ∧ (b = false → d.nx g1)
section
variable {X : Cx} {pos : Pos} {e tg : Expr} {te : DE} {tl : DL}
theorem s_asg {t : DG} (he : PE X e (up X.K te)) (hg : PG X tg (upG X.K t)) (h1 : swapsWithSole [tg] e pos.line X.env = pure false := by rfl) (h2 : swappedStores [tg] e X.env = pure none := by rfl) (h3 : (assignEach [tg] X.env).map (·.2) = [assign tg X.env] := by rfl) :
    PS X (.Assign [tg] e pos) (upS X.K (dAsg te t)) := ps_to (ps_asg he hg h1 h2 h3) fun D σ H q => by
  obtain ⟨c, g, tv, tr, F, a, d, s, hn, t, k⟩ := q
  refine ⟨c, g, tv, tr, F, a, _, s, t, fun r g1 v H1 F1 a1 t1 s1 => ?_⟩
  exact ⟨c, g1, tv, tr, F1, a1, r, _, s1, t1, fun g2 σ2 H2 F2 a2 t2 s2 => k.nx g2 σ2 H2 F2 a2 t2 s2⟩
theorem s_set {i : Nat} {x : Str} {pos' : Pos} (hN : X.N.Nodup) (hi : X.N[i]? = some x) (hx : L2.Loc X.env.scope x) (he : PE X e (up X.K te)) (h1 : swapsWith e (some (.Name x pos')) pos.line X.env = pure false := by rfl)
    (hf : X.fn x = true ∨ X.env.scope.names.lookup x = some .local := by first | exact .inl rfl | exact .inr rfl) : PS X (.Assign [.Name x pos'] e pos) (upS X.K (dAsg te (dN i))) := ps_to (ps_set hN hi hx he h1 hf) fun D σ H q => by
  obtain ⟨c, g, tv, tr, F, a, d, s, hn, t, k⟩ := q
  exact ⟨c, g, tv, tr, F, a, _, s, t, fun r g1 v H1 F1 a1 t1 s1 => k.nx _ _ H1 F1 a1 t1 (s1.set i)⟩
theorem s_setL {i : Nat} {x : Str} {pos' : Pos} (hN : X.N.Nodup) (hi : X.N[i]? = some x) (hx : L2.Loc X.env.scope x) (he : PE X e (upL X.K tl)) (h1 : swapsWith e (some (.Name x pos')) pos.line X.env = pure false := by rfl)
    (hf : X.fn x = true ∨ X.env.scope.names.lookup x = some .local := by first | exact .inl rfl | exact .inr rfl) : PS X (.Assign [.Name x pos'] e pos) (upS X.K (dSetL i tl)) := ps_to (ps_set hN hi hx he h1 hf) fun D σ H q => by
  obtain ⟨c, g, tv, tr, F, a, d, s, hn, t, k⟩ := q
  exact ⟨c, g, tv, tr, F, a, _, s, t, fun ds g1 v H1 F1 a1 t1 s1 n1 => k.nx _ _ H1 F1 a1 t1 (s1.setOwn n1 i)⟩
variable {st : Stmt} {rest body : List Stmt} {t u : DS} {ct : DT}
theorem ss_nil : PSs X [] (upS X.K dNext) := pss_to pss_nil fun D σ H q => by
  obtain ⟨c, g, tv, tr, F, a, d, s, hn, t, k⟩ := q
  exact k.nx g σ H F a t s
theorem DD.seq {K : Fg} {c : Con} {tv : List V} {tr : List Rv} {d : DEnds} {D : Ends} (k : DD K c tv tr d D) {N : Gs → Prop} {M : L2.St → Hp → Prop} (h : ∀ g σ H F a, N g → Sta K c g σ H tv tr F a → M σ H) : DD K c tv tr { d with nx := N } { D with nx := M } :=
  ⟨h, k.bk, k.ct, k.rv, k.ro⟩
theorem ss_cons (h1 : PS X st (upS X.K t)) (h2 : PSs X rest (upS X.K u)) : PSs X (st :: rest) (upS X.K (dSeq t u)) := pss_to (pss_cons h1 h2) fun D σ H q => by
  obtain ⟨c, g, tv, tr, F, a, d, s, hn, t, k⟩ := q
  exact ⟨c, g, tv, tr, F, a, _, s, hn, t, k.seq fun g1 σ1 H1 F1 a1 t1 s1 => ⟨c, g1, tv, tr, F1, a1, d, s1, hn, t1, k⟩⟩
theorem ss_one (h1 : PS X st (upS X.K t)) : PSs X [st] (upS X.K t) := pss_one h1
theorem s_if {c : Expr} {a b : List Stmt} (hc : PT X c (upT X.K ct)) (h1 : PSs X a (upS X.K t)) (h2 : PSs X b (upS X.K u)) : PS X (.If c a b pos) (upS X.K (dIfS ct t u)) := ps_to (ps_if hc h1 h2) fun D σ H q => by
  obtain ⟨c, g, tv, tr, F, a, d, s, hn, t, k⟩ := q
  refine ⟨c, g, tv, tr, F, a, _, s, t, fun b g1 H1 F1 a1 t1 s1 => ?_⟩
  cases b with
  | true => rw [if_pos rfl]; exact ⟨c, g1, tv, tr, F1, a1, d, s1, hn, t1.1 rfl, k⟩
  | false => rw [if_neg Bool.false_ne_true]; exact ⟨c, g1, tv, tr, F1, a1, d, s1, hn, t1.2 rfl, k⟩
theorem s_ret (he : PE X e (up X.K te)) : PS X (.Return (some e) pos) (upS X.K (dRet te)) := ps_to (ps_ret he) fun D σ H q => by
  obtain ⟨c, g, tv, tr, F, a, d, s, hn, t, k⟩ := q
  refine ⟨c, g, tv, tr, F, a, _, s, t, fun r g1 v H1 F1 a1 t1 s1 => ?_⟩
  cases r with
  | val x => exact k.rv x g1 σ v H1 F1 a1 t1 s1
  | _ => exact t1.elim
theorem s_retL (he : PE X e (upL X.K tl)) : PS X (.Return (some e) pos) (upS X.K (dRetL tl)) := ps_to (ps_ret he) fun D σ H q => by
  obtain ⟨c, g, tv, tr, F, a, d, s, hn, t, k⟩ := q
  refine ⟨c, g, tv, tr, F, a, _, s, t, fun ds g1 v H1 F1 a1 t1 s1 n1 => ?_⟩
  obtain ⟨o, xs, q1, q2, q3, q4, q5, q6, _⟩ := n1.ex
  exact k.ro ds g1 σ v H1 F1 a1 t1 s1 ⟨o, xs, q1, q2, q3, q4, q5, q6, fun i es h => by simp at h⟩
theorem s_retN : PS X (.Return none pos) (upS X.K (dRet (dC .none))) := ps_to ps_retN fun D σ H q => by
  obtain ⟨c, g, tv, tr, F, a, d, s, hn, t, k⟩ := q
  exact k.rv .none g σ .non H F a t (s.push (r := .val .none) Rp.non)
theorem s_expr (he : PE X e (up X.K te)) (h1 : swapsWith e none pos.line X.env = pure false := by rfl) : PS X (.Expr e pos) (upS X.K (dDrop te)) := ps_to (ps_expr he h1) fun D σ H q => by
  obtain ⟨c, g, tv, tr, F, a, d, s, hn, t, k⟩ := q
  exact ⟨c, g, tv, tr, F, a, _, s, t, fun r g1 v H1 F1 a1 t1 s1 => k.nx g1 σ H1 F1 a1 t1 s1.pop1⟩
theorem s_never : PS X st (upS X.K dNever) := ps_to ps_never fun D σ H q => by
  obtain ⟨c, g, tv, tr, F, a, d, s, hn, t, k⟩ := q
  exact t.elim
theorem s_break : PS X (.Break pos) (upS X.K dBrk) := ps_to ps_break fun D σ H q => by
  obtain ⟨c, g, tv, tr, F, a, d, s, hn, t, k⟩ := q
  exact k.bk g σ H F a t s
theorem s_cont : PS X (.Continue pos) (upS X.K dCnt) := ps_to ps_continue fun D σ H q => by
  obtain ⟨c, g, tv, tr, F, a, d, s, hn, t, k⟩ := q
  exact k.ct g σ H F a t s
theorem s_pass : PS X (.Pass pos) (upS X.K dNext) := ps_to ps_pass fun D σ H q => by
  obtain ⟨c, g, tv, tr, F, a, d, s, hn, t, k⟩ := q
  exact k.nx g σ H F a t s
theorem s_aug {i : Nat} {x : Str} {pos' : Pos} {op : Operator} {f : BinF} {r : R2} (hN : X.N.Nodup) (hi : X.N[i]? = some x) (hx : L2.Loc X.env.scope x) (he : PE X e (up X.K te)) (ho : OpR X (inplaceOp op) r) (hb : BinOk X.K r f)
    (hf : X.fn x = true ∨ X.env.scope.names.lookup x = some .local := by first | exact .inl rfl | exact .inr rfl) : PS X (.AugAssign (.Name x pos') op e pos) (upS X.K (dAug i f te)) := ps_to (ps_aug (ti := r) hN hi hx he ho hf) fun D σ H q => by
  obtain ⟨c, g, tv, tr, F, a, d, s, hn, t, k⟩ := q
  unfold dAug at t
  split at t
  · rename_i y hy
    obtain ⟨v, h1, h2⟩ := s.slot i _ hy
    refine ⟨v, h1, c, g, v :: tv, .val y :: tr, F, a, _, s.push (r := .val y) h2, t, fun r g1 w H1 F1 a1 t1 s1 => ?_⟩
    cases r with
    | val z =>
      have r1 : Rp X.K F1 v y := s1.pop1.top
      have r2 : Rp X.K F1 w z := s1.top
      exact hb F1 H1 v w y z _ _ s1.eh r1 r2 t1 fun z' v' H' F' hz gr rz => k.nx _ _ H' F' a1 hz (Sta.set (r := .val z') ((s1.pop1.pop1.grow gr).push (r := .val z') rz) i)
    | _ => exact t1.elim
  · exact t.elim
theorem s_par {i j : Nat} {x y : Str} {a b : Expr} {ta tb : DE} {px py pt : Pos} {kt k2 : Nat} {pt2 : Pos} (hc : X.calm = true) (hN : X.N.Nodup) (hi : X.N[i]? = some x) (hj : X.N[j]? = some y) (hij : i ≠ j)
    (hx : X.env.scope.names.lookup x = some .local) (hy : X.env.scope.names.lookup y = some .local) (ha : PE X a (up X.K ta)) (hb : PE X b (up X.K tb))
    (hsw : swappedStores [.Tuple [.Name x px, .Name y py] kt pt] (.Tuple [a, b] k2 pt2) X.env = pure (some [x, y]) := by rfl) (h1 : swapsWithSole [.Tuple [.Name x px, .Name y py] kt pt] (.Tuple [a, b] k2 pt2) pos.line X.env = pure false := by rfl)
    (n1 : starEach [a, b] X.env = (false, eval a X.env) :: starEach [b] X.env := by rfl) (n2 : starEach [b] X.env = (false, eval b X.env) :: starEach [] X.env := by rfl) :
    PS X (.Assign [.Tuple [.Name x px, .Name y py] kt pt] (.Tuple [a, b] k2 pt2) pos) (upS X.K (dPar i j ta tb)) := ps_to (ps_par hc hN hi hj hij hx hy (a_cons ha (a_cons hb a_nil n2) n1) hsw h1) fun D σ H q => by
  obtain ⟨c, g, tv, tr, F, a, d, s, hn, t, k⟩ := q
  refine ⟨c, g, tv, tr, F, a, fun rs g1 => match rs with | [r, s] => d.nx ((g1.set i (rsv r)).set j (rsv s)) | _ => False, s, t, fun rs g1 vs H1 F1 a1 t1 s1 hl => ?_⟩
  match rs, t1, vs, hl, s1 with
  | [r, s'], t1, [v, w], _, s1 =>
    refine ⟨v, w, rfl, k.nx _ _ H1 F1 a1 t1 ?_⟩
    have s2 : Sta X.K c g1 σ H1 (v :: w :: tv) (r :: s' :: tr) F1 a1 := by
      have e1 : Sta X.K c g1 σ H1 (w :: v :: tv) (s' :: r :: tr) F1 a1 := s1
      exact e1.pop (.cons e1.pop1.top (.cons e1.top e1.pop1.pop1.tmp))
    exact (s2.set i).set j
theorem s_par3 {i j l : Nat} {x y z : Str} {a b c : Expr} {ta tb tc : DE} {px py pz pt : Pos} {kt k2 : Nat} {pt2 : Pos} (hc : X.calm = true) (hN : X.N.Nodup) (hi : X.N[i]? = some x) (hj : X.N[j]? = some y) (hl : X.N[l]? = some z) (hij : i ≠ j) (hil : i ≠ l) (hjl : j ≠ l)
    (hx : X.env.scope.names.lookup x = some .local) (hy : X.env.scope.names.lookup y = some .local) (hz : X.env.scope.names.lookup z = some .local) (ha : PE X a (up X.K ta)) (hb : PE X b (up X.K tb)) (hcc : PE X c (up X.K tc))
    (hsw : swappedStores [.Tuple [.Name x px, .Name y py, .Name z pz] kt pt] (.Tuple [a, b, c] k2 pt2) X.env = pure (some [x, y, z]) := by rfl)
    (h1 : swapsWithSole [.Tuple [.Name x px, .Name y py, .Name z pz] kt pt] (.Tuple [a, b, c] k2 pt2) pos.line X.env = pure false := by rfl)
    (n1 : starEach [a, b, c] X.env = (false, eval a X.env) :: starEach [b, c] X.env := by rfl) (n2 : starEach [b, c] X.env = (false, eval b X.env) :: starEach [c] X.env := by rfl) (n3 : starEach [c] X.env = (false, eval c X.env) :: starEach [] X.env := by rfl) :
    PS X (.Assign [.Tuple [.Name x px, .Name y py, .Name z pz] kt pt] (.Tuple [a, b, c] k2 pt2) pos) (upS X.K (dPar3 i j l ta tb tc)) := ps_to (ps_par3 hc hN hi hj hl hij hil hjl hx hy hz (a_cons ha (a_cons hb (a_cons hcc a_nil n3) n2) n1) hsw h1) fun D σ H q => by
  obtain ⟨c, g, tv, tr, F, a, d, s, hn, t, k⟩ := q
  refine ⟨c, g, tv, tr, F, a, fun rs g1 => match rs with | [r, s, q] => d.nx (((g1.set i (rsv r)).set j (rsv s)).set l (rsv q)) | _ => False, s, t, fun rs g1 vs H1 F1 a1 t1 s1 hl => ?_⟩
  match rs, t1, vs, hl, s1 with
  | [r, s', q], t1, [v, w, y], _, s1 =>
    refine ⟨v, w, y, rfl, k.nx _ _ H1 F1 a1 t1 ?_⟩
    have s2 : Sta X.K c g1 σ H1 (v :: w :: y :: tv) (r :: s' :: q :: tr) F1 a1 := by
      have e1 : Sta X.K c g1 σ H1 (y :: w :: v :: tv) (q :: s' :: r :: tr) F1 a1 := s1
      exact e1.pop (.cons e1.pop1.pop1.top (.cons e1.pop1.top (.cons e1.top e1.pop1.pop1.pop1.tmp)))
    exact ((s2.set i).set j).set l
theorem s_parL {i j : Nat} {x y : Str} {a b : Expr} {tl : DL} {v : V} {z : Da} {px py pt : Pos} {kt k2 : Nat} {pt2 : Pos} (hc : X.calm = true) (hN : X.N.Nodup) (hi : X.N[i]? = some x) (hj : X.N[j]? = some y) (hij : i ≠ j)
    (hx : X.env.scope.names.lookup x = some .local) (hy : X.env.scope.names.lookup y = some .local) (ha : PE X a (upL X.K tl)) (hb : PE X b (tC v)) (hv : ∀ F, Rp X.K F v z)
    (hsw : swappedStores [.Tuple [.Name x px, .Name y py] kt pt] (.Tuple [a, b] k2 pt2) X.env = pure (some [x, y]) := by rfl) (h1 : swapsWithSole [.Tuple [.Name x px, .Name y py] kt pt] (.Tuple [a, b] k2 pt2) pos.line X.env = pure false := by rfl)
    (n1 : starEach [a, b] X.env = (false, eval a X.env) :: starEach [b] X.env := by rfl) (n2 : starEach [b] X.env = (false, eval b X.env) :: starEach [] X.env := by rfl) :
    PS X (.Assign [.Tuple [.Name x px, .Name y py] kt pt] (.Tuple [a, b] k2 pt2) pos) (upS X.K (dParL i j tl z)) := ps_to (ps_par hc hN hi hj hij hx hy (pa_cons ha (pa_cons hb pa_nil n2) n1) hsw h1) fun D σ H q => by
  obtain ⟨c, g, tv, tr, F, a, d, s, hn, t, k⟩ := q
  refine ⟨c, g, tv, tr, F, a, _, s, t, fun ds g1 w H1 F1 a1 t1 s1 n1 => ?_⟩
  refine ⟨w, v, rfl, k.nx _ _ H1 F1 a1 t1 ?_⟩
  exact Sta.set (r := .val z) ((s1.setOwn n1 i).push (r := .val z) (hv F1)) j
/-- x.append(e), x an own list -/
theorem s_app {i : Nat} {o : Expr} {apos cpos : Pos} {name : Str} (hv : PE X o (tVar i)) (he : PE X e (up X.K te))
    (hp : ∀ {t : TA} , PA X [e] t → PE X (.Call (.Attribute o "append" apos) [e] [] cpos) (tBM X.K "list" rAppend (tVar i) t)) (n1 : starEach [e] X.env = (false, eval e X.env) :: starEach [] X.env := by rfl)
    (h1 : swapsWith (.Call (.Attribute o "append" apos) [e] [] cpos) none pos.line X.env = pure false := by rfl) : PS X (.Expr (.Call (.Attribute o "append" apos) [e] [] cpos) pos) (upS X.K (dApp i te)) := ps_to (ps_expr (hp (pa_cons he pa_nil n1)) h1) fun D σ H q => by
  obtain ⟨c, g, tv, tr, F, a, d, s, hn, ⟨⟨ds, hd⟩, t⟩, k⟩ := q
  obtain ⟨v, h1, o, xs, rfl, q2, q3, q4, q5, q6⟩ := s.slot i _ hd
  refine ⟨_, h1, .inl ⟨rfl, xs, .inl (.inl q4)⟩, c, g, tv, tr, F, a, _, s, t, fun r g1 w H1 F1 a1 t1 s1 => ?_⟩
  cases r with
  | val z =>
    simp only at t1
    split at t1
    · rename_i es he
      obtain ⟨v', h1', o', ys, rfl, p2, p3, p4, p5, p6⟩ := s1.slot i _ he
      rw [h1] at h1'
      cases h1'
      refine ⟨o, ys, w, rfl, rfl, p4, by rw [p5.len]; exact Nat.lt_of_lt_of_le t1.1 (by decide), k.nx _ _ _ F1 a1 t1.2 (s1.pop1.mut he h1 (p5.app (.cons s1.top .nil)))⟩
    · exact t1.elim
  | _ => exact t1.elim
theorem s_ext {i : Nat} {o : Expr} {apos cpos : Pos} {name : Str} (hv : PE X o (tVar i)) (he : PE X e (up X.K te))
    (hp : ∀ {t : TA} , PA X [e] t → PE X (.Call (.Attribute o "extend" apos) [e] [] cpos) (tBM X.K "list" rExtend (tVar i) t)) (n1 : starEach [e] X.env = (false, eval e X.env) :: starEach [] X.env := by rfl)
    (h1 : swapsWith (.Call (.Attribute o "extend" apos) [e] [] cpos) none pos.line X.env = pure false := by rfl) : PS X (.Expr (.Call (.Attribute o "extend" apos) [e] [] cpos) pos) (upS X.K (dExt i te)) := ps_to (ps_expr (hp (pa_cons he pa_nil n1)) h1) fun D σ H q => by
  obtain ⟨c, g, tv, tr, F, a, d, s, hn, ⟨⟨ds, hd⟩, t⟩, k⟩ := q
  obtain ⟨v, h1, o, xs, rfl, q2, q3, q4, q5, q6⟩ := s.slot i _ hd
  refine ⟨_, h1, .inl ⟨rfl, xs, .inl (.inl q4)⟩, c, g, tv, tr, F, a, _, s, t, fun r g1 w H1 F1 a1 t1 s1 => ?_⟩
  cases r with
  | val z =>
    cases z with
    | list zs =>
      simp only at t1
      split at t1
      · rename_i es he
        obtain ⟨v', h1', o', ys, rfl, p2, p3, p4, p5, p6⟩ := s1.slot i _ he
        rw [h1] at h1'
        cases h1'
        have hw : Rp X.K F1 w (.list zs) := s1.top
        cases hw with
        | lst sq m =>
          refine ⟨o, _, ys, _, rfl, rfl, p4, s1.eh _ _ sq, by rw [p5.len, m.len]; exact mil t1.1, k.nx _ _ _ F1 a1 t1.2 (s1.pop1.mut he h1 (p5.app m))⟩
      · exact t1.elim
    | _ => exact t1.elim
  | _ => exact t1.elim
theorem s_while {c : Expr} (hp : PassesOwn (model X.prog X.w) X.A X.env X.xe) (hc : PT X c (upT X.K ct)) (hb : PSs X body (upS X.K t)) : PS X (.While c body [] pos) (upS X.K (dWhile ct t)) := ps_to (ps_while hp hc hb) fun D σ H q => by
  obtain ⟨c, g, tv, tr, F, a, d, s, hn, ⟨W, ⟨m, hm⟩, hw⟩, k⟩ := q
  refine ⟨fun m σ H => ∃ g F a, Sta X.K c g σ H tv tr F a ∧ W m g, ⟨m, g, F, a, s, hm⟩, fun m σ H hW => ?_⟩
  obtain ⟨g, F, a, s, hm⟩ := hW
  refine ⟨c, g, tv, tr, F, a, _, s, hw m g hm, fun b g1 H1 F1 a1 t1 s1 => ?_⟩
  cases b with
  | true =>
    rw [if_pos rfl]
    refine ⟨fun σ H => ∃ m', m' < m ∧ ∃ g F a, Sta X.K c g σ H tv tr F a ∧ W m' g, fun σ' H' h => h, c, g1, tv, tr, F1, a1, _, s1, hn, t1.1 rfl, ⟨fun g2 σ2 H2 F2 a2 ⟨m', h1, h2⟩ s2 => ⟨m', h1, g2, F2, a2, s2, h2⟩, k.nx, fun g2 σ2 H2 F2 a2 ⟨m', h1, h2⟩ s2 => ⟨m', h1, g2, F2, a2, s2, h2⟩, k.rv, k.ro⟩⟩
  | false =>
    rw [if_neg Bool.false_ne_true]
    exact k.nx g1 σ H1 F1 a1 (t1.2 rfl) s1
end
end Z

namespace Z
open L2 PySem PySem.Spec PyProof.Rows
open Evl (Ex ex_l ex_t ex_rd fresh_back)

/-! ### walks over data -/
structure WalkD (K : Fg) (J : It) (ds : List Da) (wv : List V) (wr : List Rv) : Prop where
  goes : ∀ (i : Nat) (F H : Hp) (a : Addr) (fu : Option Nat), Ex F H → Tm K F a fu wv wr → i < ds.length → J.go i H
  stops : ∀ (F H : Hp) (a : Addr) (fu : Option Nat), Ex F H → Tm K F a fu wv wr → J.stop ds.length H
  yields : ∀ (i : Nat) (F H : Hp) (a : Addr) (fu : Option Nat) (x : V) (H' : Hp), Ex F H → Tm K F a fu wv wr → i < ds.length → J.yld i H x H' → ∃ F' d, ds[i]? = some d ∧ Gr F H F' H' ∧ Rp K F' x d
theorem WalkD.walk {K : Fg} {J : It} {ds : List Da} {wv : List V} {wr : List Rv} (w : WalkD K J ds wv wr) : Walk J ds.length (fun H => ∃ F a fu, Ex F H ∧ Tm K F a fu wv wr) J.yld :=
  ⟨fun i H hi ⟨F, a, fu, e, t⟩ => w.goes i F H a fu e t hi, fun H ⟨F, a, fu, e, t⟩ => w.stops F H a fu e t, fun i H x H' hi _ y => y⟩
abbrev DW := Gs → (List Da → Gs → Prop) → Prop
def upI (K : Fg) (tw : DW) : TI := fun σ H R => ∃ c g tv tr F a post, Sta K c g σ H tv tr F a ∧ tw g post ∧
  ∀ ds g' H' F' a' J wv wr, post ds g' → Sta K c g' σ H' (wv ++ tv) (wr ++ tr) F' a' → wv.length = wr.length → hasSrc wr = false → WalkD K J ds wv wr → R J H'
def forD (t : DG) (tb : DS) : List Da → DS
  | [], d, g => d.nx g
  | x :: xs, d, g => t (.val x) g fun g1 => tb { d with nx := forD t tb xs d, ct := forD t tb xs d, bk := d.nx } g1
def dFor (tw : DW) (t : DG) (tb : DS) : DS := fun d g => tw g fun ds g1 => forD t tb ds d g1
theorem drop_at {α : Type} {l : List α} {i : Nat} {x : α} (h : l[i]? = some x) : l.drop i = x :: l.drop (i + 1) := by
  obtain ⟨hi, e⟩ := List.getElem?_eq_some_iff.mp h
  rw [List.drop_eq_getElem_cons hi, e]
section
variable {X : Cx} {tg iter : Expr} {body : List Stmt} {tw : DW} {t : DG} {tb : DS} {pos : Pos}
theorem s_for (hp : PassesOwn (model X.prog X.w) X.A X.env X.xe) (hc : X.calm = true) (hi : PI X tg iter (upI X.K tw)) (hg : PG X tg (upG X.K t)) (hb : PSs X body (upS X.K tb)) (hfs : ∀ x, foldedSetIterable iter X.env x = pure x := by intro _; rfl) :
    PS X (.For tg iter body [] pos) (upS X.K (dFor tw t tb)) := ps_to (ps_for hp hc hi hg hb hfs) fun D σ H q => by
  obtain ⟨c, g, tv, tr, F, a, d, s, hn, q, k⟩ := q
  refine ⟨c, g, tv, tr, F, a, _, s, q, fun ds g' H' F' a' J wv wr hf s' hl hw wd => ?_⟩
  have w := wd.walk
  have sp : ∀ {g : Gs} {σ : L2.St} {H F : Hp} {a : Addr}, Sta X.K c g σ H (wv ++ tv) (wr ++ tr) F a → Tm X.K F a g.fu wv wr ∧ Tm X.K F a g.fu tv tr := fun s => Tm.split hl s.tmp
  refine for_it w (fun i σ H => ∃ g F a, Sta X.K c g σ H (wv ++ tv) (wr ++ tr) F a ∧ forD t tb (ds.drop i) d g) ⟨g', F', a', s', hf⟩ (fun i σ H hi p => ?_) (fun i x σ H H' hi p y => ?_) (fun σ H p => ?_)
  · obtain ⟨g, F, a, s, _⟩ := p
    exact ⟨F, a, g.fu, s.eh, (sp s).1⟩
  · obtain ⟨g, F, a, s, f⟩ := p
    obtain ⟨F2, dx, e1, gr, rx⟩ := wd.yields i F H a g.fu x H' s.eh (sp s).1 hi y
    rw [drop_at e1] at f
    refine ⟨c, g, wv ++ tv, wr ++ tr, F2, a, .val dx, _, (s.grow gr).push (r := .val dx) rx, f, fun g1 σ1 H1 F1 a1 t1 s1 => ?_⟩
    refine ⟨c, g1, wv ++ tv, wr ++ tr, F1, a1, _, s1, hasSrc_app hw hn, t1, ⟨fun g2 σ2 H2 F2 a2 h s2 => ⟨g2, F2, a2, s2, h⟩, fun g2 σ2 H2 F2 a2 h s2 => k.nx g2 σ2 H2 F2 a2 h (s2.pop (sp s2).2), fun g2 σ2 H2 F2 a2 h s2 => ⟨g2, F2, a2, s2, h⟩, fun x g2 σ2 v H2 F2 a2 h s2 => ?_, fun es g2 σ2 v H2 F2 a2 h s2 n2 => ?_⟩⟩
    · exact k.rv x g2 σ2 v H2 F2 a2 h ((s2.pop1.pop (sp s2.pop1).2).push (r := .val x) s2.top)
    · exact k.ro es g2 σ2 v H2 F2 a2 h (s2.pop (sp s2).2) n2
  · obtain ⟨g, F, a, s, f⟩ := p
    rw [List.drop_length] at f
    exact k.nx g σ H F a f (s.pop (sp s).2)
end
/-! what is walked -/
theorem walkD_list {K : Fg} {p : Addr} {ds : List Da} : WalkD K (Itl K p) ds [.ref p] [.val (.list ds)] := by
  have get : ∀ {F H : Hp} {a : Addr} {fu : Option Nat}, Ex F H → Tm K F a fu [.ref p] [.val (.list ds)] → ∃ xs, SqL K H p xs ∧ Rps K F xs ds := fun {F H a fu} e t => by
    cases t with
    | cons h _ =>
      have h' : Rp K F (.ref p) (.list ds) := h
      cases h' with
      | lst sq m => exact ⟨_, .inl (.inl (e _ _ sq)), m⟩
  refine ⟨fun i F H a fu e t hi => ?_, fun F H a fu e t => ?_, fun i F H a fu x H' e t hi y => ?_⟩
  · obtain ⟨xs, sq, m⟩ := get e t
    obtain ⟨v, h1, _⟩ := m.get (List.getElem?_eq_getElem hi)
    exact ⟨xs, v, sq, h1⟩
  · obtain ⟨xs, sq, m⟩ := get e t
    exact ⟨xs, sq, Nat.le_of_eq m.len⟩
  · obtain ⟨xs, sq, m⟩ := get e t
    obtain ⟨v, h1, h2⟩ := m.get (List.getElem?_eq_getElem hi)
    obtain ⟨rfl, hx⟩ := y
    rw [hx xs sq] at h1
    cases h1
    exact ⟨F, _, List.getElem?_eq_getElem hi, Gr.refl e, h2⟩
theorem walkD_tup {K : Fg} {p : Addr} {ds : List Da} : WalkD K (Itt K p) ds [.ref p] [.val (.tuple ds)] := by
  have get : ∀ {F H : Hp} {a : Addr} {fu : Option Nat}, Ex F H → Tm K F a fu [.ref p] [.val (.tuple ds)] → ∃ xs, SqT K H p xs ∧ Rps K F xs ds := fun {F H a fu} e t => by
    cases t with
    | cons h _ =>
      have h' : Rp K F (.ref p) (.tuple ds) := h
      cases h' with
      | tup sq m => exact ⟨_, ex_t e sq, m⟩
  refine ⟨fun i F H a fu e t hi => ?_, fun F H a fu e t => ?_, fun i F H a fu x H' e t hi y => ?_⟩
  · obtain ⟨xs, sq, m⟩ := get e t
    obtain ⟨v, h1, _⟩ := m.get (List.getElem?_eq_getElem hi)
    exact ⟨xs, v, sq, h1⟩
  · obtain ⟨xs, sq, m⟩ := get e t
    exact ⟨xs, sq, Nat.le_of_eq m.len⟩
  · obtain ⟨xs, sq, m⟩ := get e t
    obtain ⟨v, h1, h2⟩ := m.get (List.getElem?_eq_getElem hi)
    obtain ⟨rfl, hx⟩ := y
    rw [hx xs sq] at h1
    cases h1
    exact ⟨F, _, List.getElem?_eq_getElem hi, Gr.refl e, h2⟩
theorem walkD_scr {K : Fg} {p : Addr} {ns : List Int} : WalkD K (Itl K p) (ns.map PyData.int) [.ref p] [.scr ns] := by
  have get : ∀ {F H : Hp} {a : Addr} {fu : Option Nat}, Ex F H → Tm K F a fu [.ref p] [.scr ns] → SqL K H p (ns.map V.int) := fun {F H a fu} e t => by
    cases t with
    | cons h _ =>
      obtain ⟨b, e1, sq⟩ := h
      cases e1
      exact ex_l e sq
  refine ⟨fun i F H a fu e t hi => ?_, fun F H a fu e t => ?_, fun i F H a fu x H' e t hi y => ?_⟩
  · rw [List.length_map] at hi
    exact ⟨_, _, get e t, by rw [List.getElem?_map, List.getElem?_eq_getElem hi]; rfl⟩
  · exact ⟨_, get e t, by rw [List.length_map, List.length_map]; exact Nat.le_refl _⟩
  · obtain ⟨rfl, hx⟩ := y
    rw [List.length_map] at hi
    have h1 := hx _ (get e t)
    rw [List.getElem?_map, List.getElem?_eq_getElem hi] at h1
    cases h1
    exact ⟨F, .int ns[i], by rw [List.getElem?_map, List.getElem?_eq_getElem hi]; rfl, Gr.refl e, .int _⟩
def dItems (te : DE) : DW := fun g Q => te g fun r g1 => match r with
  | .val (.list ds) => Q ds g1
  | .val (.tuple ds) => Q ds g1
  | .scr ns => Q (ns.map PyData.int) g1
  | _ => False
def rangeD (lo : Int) (n : Nat) : List Da := (List.range n).map fun i => .int (lo + (i : Nat))
def dRange1 (te : DE) : DW := fun g Q => te g fun r g1 => match r with
  | .val (.int j) => j < 2 ^ 62 ∧ -(2 ^ 62) ≤ j ∧ Q (rangeD 0 j.toNat) g1
  | _ => False
def dRange2 (ta tb : DE) : DW := fun g Q => ta g fun x g1 => tb g1 fun y g2 => match x, y with
  | .val (.int i), .val (.int j) => (-(2 ^ 62) ≤ i ∧ i < 2 ^ 62 ∧ -(2 ^ 62) ≤ j ∧ j < 2 ^ 62) ∧ Q (rangeD i (j - i).toNat) g2
  | _, _ => False
def zipD : List Da → List Da → List Da
  | x :: xs, y :: ys => .tuple [x, y] :: zipD xs ys
  | _, _ => []
def dZip (ta tb : DE) : DW := fun g Q => ta g fun x g1 => tb g1 fun y g2 => match x, y with
  | .val (.tuple xs), .val (.tuple ys) => Q (zipD xs ys) g2
  | .val (.list xs), .val (.list ys) => Q (zipD xs ys) g2
  | _, _ => False
def dRev (te : DE) : DW := fun g Q => te g fun r g1 => match r with
  | .val (.list ds) => Q ds.reverse g1
  | .val (.tuple ds) => Q ds.reverse g1
  | _ => False
theorem zipD_len : ∀ (xs ys : List Da), (zipD xs ys).length = min xs.length ys.length
  | [], _ => by simp [zipD]
  | _ :: _, [] => by simp [zipD]
  | x :: xs, y :: ys => by
    show (zipD xs ys).length + 1 = _
    rw [zipD_len xs ys, List.length_cons, List.length_cons]
    omega
theorem zipD_get : ∀ (xs ys : List Da) (i : Nat) (x y : Da), xs[i]? = some x → ys[i]? = some y → (zipD xs ys)[i]? = some (.tuple [x, y])
  | [], _, _, _, _, h, _ => by simp at h
  | _ :: _, [], _, _, _, _, h => by simp at h
  | a :: xs, b :: ys, 0, x, y, h1, h2 => by simp at h1 h2; subst h1; subst h2; rfl
  | a :: xs, b :: ys, i + 1, x, y, h1, h2 => zipD_get xs ys i x y (by simpa using h1) (by simpa using h2)
section
variable {X : Cx} {tg l b : Expr} {te ta tb : DE} {p pos : Pos}
/-- a list, a tuple, the script -/
theorem i_items (hl : PE X l (up X.K te)) : PI X tg l (upI X.K (dItems te)) := by
  refine ⟨fun pins st σ H R I q => ?_⟩
  obtain ⟨c, g, tv, tr, F, a, post, s, t, k⟩ := q
  refine thn (hl.run pins st σ H (fun v H1 => (∃ p xs, v = .ref p ∧ SqL X.K H1 p xs ∧ R (Itl X.K p) H1) ∨ ∃ p xs, v = .ref p ∧ SqT X.K H1 p xs ∧ R (Itt X.K p) H1) I ?_) fun u s1 ⟨x, H1, I1, r1, q1⟩ => ?_
  · refine ⟨c, g, tv, tr, F, a, _, s, t, fun r g1 v H1 F1 a1 t1 s1 => ?_⟩
    cases r with
    | val d =>
      cases d with
      | list ds =>
        have hr : Rp X.K F1 v (.list ds) := s1.top
        cases hr with
        | lst sq m => exact .inl ⟨_, _, rfl, .inl (.inl (s1.eh _ _ sq)), k ds g1 H1 F1 a1 _ [_] [.val (.list ds)] t1 s1 rfl rfl walkD_list⟩
      | tuple ds =>
        have hr : Rp X.K F1 v (.tuple ds) := s1.top
        cases hr with
        | tup sq m => exact .inr ⟨_, _, rfl, ex_t s1.eh sq, k ds g1 H1 F1 a1 _ [_] [.val (.tuple ds)] t1 s1 rfl rfl walkD_tup⟩
      | _ => exact t1.elim
    | scr ns =>
      obtain ⟨b, rfl, sq⟩ := s1.top
      exact .inl ⟨_, _, rfl, ex_l s1.eh sq, k _ g1 H1 F1 a1 _ [_] [.scr ns] t1 s1 rfl rfl walkD_scr⟩
    | src => exact t1.elim
  · have fr := I1.hok.fresh (Nat.le_refl s1.heap.objs.size)
    have fp : ∀ b ∈ [s1.heap.objs.size], FpOk X pins H1 b := fun b hb => by
      cases List.mem_singleton.mp hb
      exact I1.fpOk (Nat.le_refl _) fr
    rcases q1 with ⟨p, xs, rfl, sq, q⟩ | ⟨p, xs, rfl, sq, q⟩
    · cases r1
      obtain ⟨its, rv, pl, hz⟩ := I1.list sq
      exact wpAny_pyIter_list pl.isList ⟨_, _, _, _, H1, rfl, I1.kept (t' := s1.toks) fun b o e => Heap.get?_push_of_some _ e, turn_list p _, ⟨_, Heap.get?_push_size _ rfl, rfl, rfl⟩, fp, q⟩
    · cases r1
      obtain ⟨its, rv, pl, hz⟩ := I1.tuple sq
      exact wpAny_pyIter_tuple (show s1.heap.IsTuple p its.toArray from pl) ⟨_, _, _, _, H1, rfl, I1.kept (t' := s1.toks) fun b o e => Heap.get?_push_of_some _ e, turn_tuple p _, ⟨_, Heap.get?_push_size _ rfl, rfl, rfl⟩, fp, q⟩
theorem pi_to {w w' : TI} (h : PI X tg l w) (i : ∀ σ H R, w' σ H R → w σ H R) : PI X tg l w' := ⟨fun pins s σ H R I q => h.run pins s σ H R I (i _ _ _ q)⟩
theorem rangeD_get {lo : Int} {n i : Nat} (h : i < n) : (rangeD lo n)[i]? = some (.int (lo + (i : Nat))) := by
  unfold rangeD
  rw [List.getElem?_map, List.getElem?_range h]
  rfl
theorem rangeD_len (lo : Int) (n : Nat) : (rangeD lo n).length = n := by
  unfold rangeD
  rw [List.length_map, List.length_range]
theorem walkD_range {K : Fg} {lo : Int} {n : Nat} : WalkD K (Itr lo n) (rangeD lo n) [] [] := by
  refine ⟨fun i F H a fu e t hi => ?_, fun F H a fu e t => ?_, fun i F H a fu x H' e t hi y => ?_⟩
  · rw [rangeD_len] at hi; exact hi
  · rw [rangeD_len]; exact Nat.le_refl n
  · rw [rangeD_len] at hi
    obtain ⟨rfl, rfl⟩ := y
    exact ⟨F, _, rangeD_get hi, Gr.refl e, .int _⟩
theorem i_range1 (hg : Gl X "range") (hm : X.mg "range" = none) (ha : PE X l (up X.K te)) (hs : starEach [l] X.env = [(false, eval l X.env)] := by rfl) : PI X tg (.Call (.Name "range" p) [l] [] pos) (upI X.K (dRange1 te)) :=
  pi_to (pi_range1 hg hm (pa_cons ha pa_nil hs) hs) fun σ H R q => by
  obtain ⟨c, g, tv, tr, F, a, post, s, t, k⟩ := q
  refine ⟨c, g, tv, tr, F, a, _, s, t, fun r g1 v H1 F1 a1 t1 s1 => ?_⟩
  cases r with
  | val d =>
    cases d with
    | int j =>
      have hr : Rp X.K F1 v (.int j) := s1.top
      cases hr
      exact ⟨j, rfl, t1.2.1, t1.1, k _ g1 H1 F1 a1 _ [] [] t1.2.2 s1.pop1 rfl rfl walkD_range⟩
    | _ => exact t1.elim
  | _ => exact t1.elim
theorem i_range2 (hg : Gl X "range") (hm : X.mg "range" = none) (ha : PE X l (up X.K ta)) (hb : PE X b (up X.K tb)) (hs : starEach [l, b] X.env = [(false, eval l X.env), (false, eval b X.env)] := by rfl) (hs2 : starEach [b] X.env = [(false, eval b X.env)] := by rfl) :
    PI X tg (.Call (.Name "range" p) [l, b] [] pos) (upI X.K (dRange2 ta tb)) := pi_to (pi_range2 hg hm (pa_cons ha (pa_cons hb pa_nil hs2) (by rw [hs, hs2])) hs hs2) fun σ H R q => by
  obtain ⟨c, g, tv, tr, F, a, post, s, t, k⟩ := q
  refine ⟨c, g, tv, tr, F, a, _, s, t, fun r g1 v H1 F1 a1 t1 s1 => ?_⟩
  refine ⟨c, g1, _, _, F1, a1, _, s1, t1, fun r2 g2 v2 H2 F2 a2 t2 s2 => ?_⟩
  split at t2
  · rename_i i j
    have hr : Rp X.K F2 v (.int i) := s2.pop1.top
    have hr2 : Rp X.K F2 v2 (.int j) := s2.top
    cases hr
    cases hr2
    exact ⟨i, j, rfl, t2.1, k _ g2 H2 F2 a2 _ [] [] t2.2 s2.pop1.pop1 rfl rfl walkD_range⟩
  · exact t2.elim
end
end Z

namespace Z
open L2 PySem PySem.Spec PyProof.Rows
open Evl (Ex ex_l ex_t ex_rd fresh_back)

/-! ### targets of a comprehension: they store into its own slots alone -/
def upGw (K : Fg) (vs : List Nat) (t : DG) : TG := fun v σ H Q => ∃ c g tv tr F a r post, Sta K c g σ H (v :: tv) (r :: tr) F a ∧ t r g post ∧
  ∀ g' σ' H' F' a', post g' → Sta K c g' σ' H' tv tr F' a' → wipe σ' vs = wipe σ vs → Q σ' H'
def upGsw (K : Fg) (vs : List Nat) (t : DGs) : TGs := fun us σ H Q => ∃ c g tv tr F a ds post, Sta K c g σ H (us ++ tv) (ds.map Rv.val ++ tr) F a ∧ us.length = ds.length ∧ t ds g post ∧
  ∀ g' σ' H' F' a', post g' → Sta K c g' σ' H' tv tr F' a' → wipe σ' vs = wipe σ vs → Q σ' H'
theorem wipe_get {σ : L2.St} : ∀ {vs : List Nat} {i : Nat}, i ∉ vs → (wipe σ vs)[i]? = σ[i]?
  | [], _, _ => rfl
  | v :: vs, i, h => by
    show ((wipe σ vs).set v none)[i]? = _
    rw [List.getElem?_set_ne (fun e => h (by rw [e]; exact List.mem_cons_self)), wipe_get fun z => h (List.mem_cons_of_mem _ z)]
theorem wipe_in {σ : L2.St} : ∀ {vs : List Nat} {i : Nat}, i ∈ vs → i < σ.length → (wipe σ vs)[i]? = some none
  | v :: vs, i, h, hl => by
    show ((wipe σ vs).set v none)[i]? = _
    by_cases e : v = i
    · subst e
      exact List.getElem?_set_self (by rw [wipe_length]; exact hl)
    · rw [List.getElem?_set_ne e]
      rcases List.mem_cons.mp h with z | z
      · exact absurd z.symm e
      · exact wipe_in z hl
theorem wipe_set {σ : L2.St} {vs : List Nat} {i : Nat} {x : Option V} (h : i ∈ vs) : wipe (σ.set i x) vs = wipe σ vs := by
  apply List.ext_getElem?
  intro j
  by_cases hj : j ∈ vs
  · by_cases hl : j < σ.length
    · rw [wipe_in hj (by rw [List.length_set]; exact hl), wipe_in hj hl]
    · rw [List.getElem?_eq_none (by rw [wipe_length, List.length_set]; omega), List.getElem?_eq_none (by rw [wipe_length]; omega)]
  · rw [wipe_get hj, wipe_get hj, List.getElem?_set_ne (fun e => hj (by rw [← e]; exact h))]
section
variable {X : Cx} {pos : Pos} {e : Expr} {es : List Expr} {vs : List Nat} {K : Fg}
theorem gw_name {i : Nat} (hk : K = X.K) (h : PG X e (gName i)) (hi : i ∈ vs) : PG X e (upGw K vs (dN i)) := pg_to h fun v σ H Q q => by
  subst hk
  obtain ⟨c, g, tv, tr, F, a, r, post, s, t, k⟩ := q
  exact k _ _ H F a t (s.set i) (wipe_set hi)
theorem gsw_nil : PGs X [] (upGsw K vs dTn) := pgs_to pgs_nil fun us σ H Q q => by
  obtain ⟨c, g, tv, tr, F, a, ds, post, s, hl, t, k⟩ := q
  cases ds with
  | nil =>
    have : us = [] := List.length_eq_zero_iff.mp hl
    subst this
    exact ⟨rfl, k _ _ H F a t s rfl⟩
  | cons d r => exact t.elim
theorem gsw_cons {t : DG} {u : DGs} (h : PG X e (upGw K vs t)) (hr : PGs X es (upGsw K vs u)) (hs : (assignEach (e :: es) X.env).map (·.2) = assign e X.env :: (assignEach es X.env).map (·.2) := by rfl) : PGs X (e :: es) (upGsw K vs (dTc t u)) := pgs_to (pgs_cons h hr hs) fun us σ H Q q => by
  obtain ⟨c, g, tv, tr, F, a, ds, post, s, hl, t, k⟩ := q
  cases ds with
  | nil => exact t.elim
  | cons d r =>
    cases us with
    | nil => simp at hl
    | cons v us =>
      refine ⟨v, us, rfl, c, g, _, _, F, a, _, _, s, t, fun g1 σ1 H1 F1 a1 t1 s1 w1 => ?_⟩
      exact ⟨c, g1, tv, tr, F1, a1, r, _, s1, by simpa using hl, t1, fun g2 σ2 H2 F2 a2 t2 s2 w2 => k g2 σ2 H2 F2 a2 t2 s2 (w2.trans w1)⟩
theorem gw_tup {n k : Nat} {t : DGs} (hk : K = X.K) (hc : X.calm = true) (h : PGs X es (upGsw K vs t)) (hn : (assignEach es X.env).length = n := by rfl) (hf : List.findIdx? (fun x => x.1) (assignEach es X.env) = none := by rfl) : PG X (.Tuple es k pos) (upGw K vs (dT n t)) :=
  pg_to (pg_tup hc h hn hf) fun v σ H Q q => by
  subst hk
  obtain ⟨c, g, tv, tr, F, a, r, post, s, t, k⟩ := q
  cases r with
  | val d =>
    cases d with
    | tuple ds =>
      have hr : Rp X.K F v (.tuple ds) := s.top
      cases hr with
      | tup sq m =>
        refine ⟨_, _, rfl, ex_t s.eh sq, by rw [m.len]; exact t.1, c, g, tv, tr, F, a, ds, post, s.pop ((Tm.ofRps m).app s.pop1.tmp), m.len, t.2, k⟩
    | _ => exact t.elim
  | _ => exact t.elim
end
/-! ### list comprehensions -/
def noOwn : Option Sv → Option Sv
  | some (.own _) => none
  | x => x
def wipeS (sl : List (Option Sv)) : List Nat → List (Option Sv)
  | [] => sl
  | v :: vs => (wipeS sl vs).set v none
def hide (vs : List Nat) (sl : List (Option Sv)) : List (Option Sv) := wipeS (sl.map noOwn) vs
theorem wipeS_len (sl : List (Option Sv)) : ∀ vs, (wipeS sl vs).length = sl.length
  | [] => rfl
  | v :: vs => by
    show ((wipeS sl vs).set v none).length = _
    rw [List.length_set, wipeS_len sl vs]
theorem wipeS_some {sl : List (Option Sv)} : ∀ {vs : List Nat} {i : Nat} {s : Sv}, (wipeS sl vs)[i]? = some (some s) → i ∉ vs ∧ sl[i]? = some (some s)
  | [], _, _, h => ⟨by simp, h⟩
  | v :: vs, i, s, h => by
    rcases set_some (show ((wipeS sl vs).set v none)[i]? = some (some s) from h) with ⟨_, _, e⟩ | ⟨ne, e⟩
    · cases e
    · obtain ⟨h1, h2⟩ := wipeS_some e
      exact ⟨by simp only [List.mem_cons, not_or]; exact ⟨ne, h1⟩, h2⟩
theorem hide_some {sl : List (Option Sv)} {vs : List Nat} {i : Nat} {s : Sv} (h : (hide vs sl)[i]? = some (some s)) : i ∉ vs ∧ sl[i]? = some (some s) ∧ ∀ ds, s ≠ .own ds := by
  obtain ⟨h1, h2⟩ := wipeS_some h
  rw [List.getElem?_map] at h2
  cases q : sl[i]? with
  | none => rw [q] at h2; cases h2
  | some x =>
    rw [q] at h2
    have h3 : noOwn x = some s := Option.some.inj h2
    refine ⟨h1, ?_, fun ds e => ?_⟩
    · cases x with
      | none => cases h3
      | some y => cases y <;> first | (cases h3; rfl) | cases h3
    · subst e
      cases x with
      | none => cases h3
      | some y => cases y <;> cases h3
def fuN (fu fu' : Option Nat) : Option Nat := match fu with
  | some _ => fu'
  | none => none
def lcD (sl : List (Option Sv)) (t : DG) (tt : DT) (te : DE) : List Da → List Da → Option Nat → (List Da → Option Nat → Prop) → Prop
  | [], acc, fu, Q => Q acc fu
  | x :: xs, acc, fu, Q => t (.val x) ⟨sl, fu, false⟩ fun g1 => tt g1 fun b g2 =>
    (b = true → te g2 fun r g3 => match r with
      | .val d => acc.length < 1000000 ∧ lcD sl t tt te xs (acc ++ [d]) (fuN fu g3.fu) Q
      | _ => False) ∧ (b = false → lcD sl t tt te xs acc (fuN fu g2.fu) Q)
def dYes : DT := fun g Q => Q true g
def dLc (vs : List Nat) (tw : DW) (t : DG) (tt : DT) (te : DE) : DL := fun g Q => tw g fun ds g1 => lcD (hide vs g1.sl) t tt te ds [] g1.fu fun acc fu' => Q acc { g1 with fu := fu' }
section
variable {K : Fg} {F1 H1 F H : Hp} {a D : Addr} {fu0 fu : Option Nat} {acc : List Da}
/-- behind a turn: from the nested entry back to the one ahead of the comprehension -/
theorem Out.turn (o : Out K F1 H1 a fu0 fu F H (.ref D) (.own acc)) {g : Gs} {σ : L2.St} {H4 F4 : Hp} {tv : List V} {tr : List Rv} {a4 : Addr} (hfu : fu0 = none → fu = none) (hD : fu0 ≠ none → D ≠ a) (s : Sta K ⟨F, H, if fu = none then none else some a⟩ g σ H4 tv tr F4 a4) :
    (fu0 ≠ none → a4 = a) ∧ F4 D = none ∧ (fu0 = none → fuN fu g.fu = none) ∧ (∃ xs, H4 D = some (.lst xs) ∧ Rps K F4 xs acc) ∧ Out K F1 H1 a fu0 (fuN fu g.fu) F4 H4 (.ref D) (.own acc) := by
  obtain ⟨o', xs, eD, d1, d2, d3, d4⟩ := o.rep
  cases eD
  have fne : fu0 ≠ none → fu ≠ none := fun hf => by
    obtain ⟨n, e, _⟩ := o.src hf
    exact ne_none e
  have ext1 : fu0 ≠ none → (if fu = none then none else some a : Option Addr) = some a := fun hf => if_neg (fne hf)
  have ext0 : ∀ b, (fu0 ≠ none → b ≠ a) → (if fu = none then none else some a : Option Addr) ≠ some b := fun b hb => by
    by_cases hf : fu = none
    · rw [if_pos hf]; exact fun z => nomatch z
    · rw [if_neg hf]
      intro z
      cases z
      exact hb (fun z => hf (hfu z)) rfl
  have a4e : fu0 ≠ none → a4 = a ∧ g.fu ≠ none := fun hf => s.ex a (ext1 hf)
  have hD4 : H4 D = some (.lst xs) := s.keep D _ (ext0 D hD) d3
  have hF4 : F4 D = none := by
    cases q : F4 D with
    | none => rfl
    | some u =>
      rcases s.new D (ne_none q) with z | z
      · exact absurd d2 z
      · have z' : H D = none := z
        rw [d3] at z'; cases z'
  have hn : fu0 = none → fuN fu g.fu = none := fun z => by
    rw [hfu z]; rfl
  refine ⟨fun hf => (a4e hf).1, hF4, hn, ⟨xs, hD4, d4.up s.e0⟩, ⟨o.f.trans s.e0, s.eh, fun b u hb e => s.keep b u (ext0 b hb) (o.keep b u hb e), fun b q => ?_, fun hf => ?_, ⟨D, xs, rfl, d1, hF4, hD4, d4.up s.e0⟩⟩⟩
  · rcases s.new b q with z | z
    · exact o.new b z
    · have z' : H b = none := z
      refine .inr ?_
      cases e : H1 b with
      | none => rfl
      | some u =>
        by_cases hb : fu0 ≠ none → b ≠ a
        · rw [o.keep b u hb e] at z'; cases z'
        · have hb1 : fu0 ≠ none := fun w => hb fun w' => absurd w w'
          have hb2 : b = a := Classical.byContradiction fun w => hb fun _ => w
          obtain ⟨n, _, _, x, y, w, q', _⟩ := o.src hb1
          rw [hb2, q'] at z'; cases z'
  · obtain ⟨e1, e2⟩ := a4e hf
    subst e1
    cases q : g.fu with
    | none => exact absurd q e2
    | some n =>
      obtain ⟨h1, _, h3⟩ := s.src n q
      cases q2 : fu with
      | none => exact absurd q2 (fne hf)
      | some m => exact ⟨n, rfl, h1, h3⟩
/-- the list at D grows -/
theorem Out.grow (o : Out K F1 H1 a fu0 fu F H (.ref D) (.own acc)) (hD : fu0 ≠ none → D ≠ a) {xs : List V} {v : V} {d : Da} (hx : H D = some (.lst xs)) (m : Rps K F xs acc) (r : Rp K F v d) : Out K F1 H1 a fu0 fu F (upd H D (.lst (xs ++ [v]))) (.ref D) (.own (acc ++ [d])) := by
  obtain ⟨o', ys, eD, d1, d2, d3, d4⟩ := o.rep
  cases eD
  refine ⟨o.f, fun b u q => ?_, fun b u hb e => ?_, o.new, fun hf => ?_, ⟨D, _, rfl, d1, d2, upd_same, m.app (.cons r .nil)⟩⟩
  · have nb : b ≠ D := fun z => by rw [z, d2] at q; cases q
    rw [upd_ne nb]; exact o.s b u q
  · have nb : b ≠ D := fun z => by rw [z, d1] at e; cases e
    rw [upd_ne nb]; exact o.keep b u hb e
  · obtain ⟨n, h1, h2, x, y, w, q', h3⟩ := o.src hf
    exact ⟨n, h1, h2, x, y, w, by rw [upd_ne (fun z => hD hf z.symm)]; exact q', h3⟩
end
theorem lc_sta {K : Fg} {c : Con} {g1 : Gs} {σ : L2.St} {H1 F1 : Hp} {tv : List V} {tr : List Rv} {a : Addr} (s : Sta K c g1 σ H1 tv tr F1 a) (vs : List Nat) {fu : Option Nat} {F H : Hp} {D : Addr} {acc : List Da} (o : Out K F1 H1 a g1.fu fu F H (.ref D) (.own acc)) (hfu : g1.fu = none → fu = none) :
    Sta K ⟨F, H, if fu = none then none else some a⟩ ⟨hide vs g1.sl, fu, false⟩ (wipe σ vs) H tv tr F a := by
  have fne : g1.fu ≠ none → fu ≠ none := fun hf => by
    obtain ⟨n, e, _⟩ := o.src hf
    exact ne_none e
  have bne : fu ≠ none → g1.fu ≠ none := fun hf z => hf (hfu z)
  have tm : Tm K F a fu tv tr := by
    cases q : g1.fu with
    | none =>
      have t := s.tmp.up o.f
      rw [q] at t
      rw [hfu q]
      exact t
    | some n => exact (s.tmp.up o.f).refu (fne (ne_none q))
  refine ⟨Ex.refl F, o.s, fun b u _ e => e, fun b q => .inl q, fun b e => ?_, fun z => (by cases z), fun n e => ?_, tm, ?_, fun i sv h => ?_, fun i j ds es _ h => ?_⟩
  · by_cases hf : fu = none
    · simp [hf] at e
    · simp [hf] at e
      exact ⟨e, hf⟩
  · have e' : fu = some n := e
    obtain ⟨n', h1, h2, h3⟩ := o.src (bne (ne_none e'))
    rw [e'] at h1
    cases h1
    exact ⟨h2, .inl (if_neg (ne_none e')), h3⟩
  · show (wipe σ vs).length = (hide vs g1.sl).length
    rw [wipe_length]
    unfold hide
    rw [wipeS_len, List.length_map]
    exact s.len
  · obtain ⟨h1, h2, h3⟩ := hide_some (show (hide vs g1.sl)[i]? = some (some sv) from h)
    obtain ⟨v, w1, w2⟩ := s.slot i sv h2
    refine ⟨v, by rw [wipe_get h1]; exact w1, ?_⟩
    cases sv with
    | val d => exact Rp.up w2 o.f
    | src => exact ⟨w2.1, fne w2.2⟩
    | scr ns => obtain ⟨b, z1, z2⟩ := w2; exact ⟨b, z1, ex_l o.f z2⟩
    | own ds => exact absurd rfl (h3 ds)
  · obtain ⟨_, _, h3⟩ := hide_some (show (hide vs g1.sl)[i]? = some (some (Sv.own ds)) from h)
    exact absurd rfl (h3 ds)
section
variable {K : Fg} {vs : List Nat} {tw : DW} {t : DG} {tt : DT} {te : DE}
theorem lc_main : ∀ σ H Q, upL K (dLc vs tw t tt te) σ H Q → tLc (upI K tw) (upGw K vs t) (upT K tt) (up K te) vs σ H Q := fun σ H Q q => by
  obtain ⟨c, g, tv, tr, F, a, post, s, q, k⟩ := q
  refine ⟨c, g, tv, tr, F, a, _, s, q, fun ds g1 H1 F1 a1 J wv wr hf s1 hl hw wd D hD => ?_⟩
  have sp : ∀ {g : Gs} {c : Con} {σ : L2.St} {H F : Hp} {a : Addr}, Sta K c g σ H (wv ++ tv) (wr ++ tr) F a → Tm K F a g.fu wv wr ∧ Tm K F a g.fu tv tr := fun s => Tm.split hl s.tmp
  have srcH : g1.fu ≠ none → ∃ n, g1.fu = some n ∧ F1 a1 = none ∧ SrcAt H1 a1 n := fun hf => by
    cases q : g1.fu with
    | none => exact absurd q hf
    | some n => exact ⟨n, rfl, (s1.src n q).1, (s1.src n q).2.2⟩
  have Da1 : g1.fu ≠ none → D ≠ a1 := fun hf e => by
    obtain ⟨n, _, _, x, y, z, q, _⟩ := srcH hf
    rw [← e, hD] at q; cases q
  have o0 : Out K F1 H1 a1 g1.fu g1.fu F1 (upd H1 D (.lst [])) (.ref D) (.own []) := by
    have eH : Ex H1 (upd H1 D (.lst [])) := Ex.new hD
    refine ⟨Ex.refl F1, s1.eh.trans eH, fun b u _ e => eH b u e, fun b q => .inl q, fun hf => ?_, ⟨D, [], rfl, hD, fresh_back s1.eh hD, upd_same, .nil⟩⟩
    obtain ⟨n, h1, h2, x, y, z, q, h3⟩ := srcH hf
    exact ⟨n, h1, h2, x, y, z, eH _ _ q, h3⟩
  refine lc_it wd.walk (fun i H => ∃ F fu acc, Out K F1 H1 a1 g1.fu fu F H (.ref D) (.own acc) ∧ (g1.fu = none → fu = none) ∧ lcD (hide vs g1.sl) t tt te (ds.drop i) acc fu fun acc fu' => post acc { g1 with fu := fu' }) ⟨F1, g1.fu, [], o0, id, hf⟩ (fun i H hi p => ?_) (fun i x H H' hi p y => ?_) (fun H p => ?_)
  · obtain ⟨F, fu, acc, o, hfu, _⟩ := p
    have s2 := lc_sta s1 vs o hfu
    exact ⟨F, a1, fu, s2.eh, (sp s2).1⟩
  · obtain ⟨F, fu, acc, o, hfu, f⟩ := p
    have s2 := lc_sta s1 vs o hfu
    obtain ⟨F2, dx, e1, gr, rx⟩ := wd.yields i F H a1 fu x H' s2.eh (sp s2).1 hi y
    rw [drop_at e1] at f
    refine ⟨_, _, wv ++ tv, wr ++ tr, F2, a1, .val dx, _, (s2.grow gr).push (r := .val dx) rx, f, fun g3 σ3 H3 F3 a3 t3 s3 w3 => ⟨?_, ?_⟩⟩
    · rw [w3]
      apply List.ext_getElem?
      intro j
      by_cases hj : j ∈ vs
      · by_cases hl : j < σ.length
        · rw [wipe_in hj (by rw [wipe_length]; exact hl), wipe_in hj hl]
        · rw [List.getElem?_eq_none (by rw [wipe_length, wipe_length]; omega), List.getElem?_eq_none (by rw [wipe_length]; omega)]
      · rw [wipe_get hj, wipe_get hj]
    · refine ⟨_, g3, _, _, F3, a3, _, s3, t3, fun b g4 H4 F4 a4 t4 s4 => ?_⟩
      cases b with
      | true =>
        rw [if_pos rfl]
        refine ⟨_, g4, _, _, F4, a4, _, s4, t4.1 rfl, fun r g5 v H5 F5 a5 t5 s5 => ?_⟩
        cases r with
        | val d =>
          obtain ⟨ae, fD, fn, ⟨xs, hx, m⟩, o5⟩ := o.turn hfu Da1 s5.pop1
          exact ⟨xs, hx, by rw [m.len]; exact Nat.lt_of_lt_of_le t5.1 (by decide), F5, _, _, o5.grow Da1 hx m s5.top, fn, t5.2⟩
        | _ => exact t5.elim
      | false =>
        rw [if_neg Bool.false_ne_true]
        obtain ⟨ae, fD, fn, ⟨xs, hx, m⟩, o5⟩ := o.turn hfu Da1 s4
        exact ⟨F4, _, _, o5, fn, t4.2 rfl⟩
  · obtain ⟨F, fu, acc, o, hfu, f⟩ := p
    rw [List.drop_length] at f
    have s1' := s1.pop (sp s1).2
    by_cases hf : g1.fu = none
    · have o' := o
      rw [hf] at o'
      have s3 := s1'.after0 o'
      have e : ({ g1 with fu := fu } : Gs) = g1 := by
        rw [hfu hf, ← hf]
      refine k acc _ _ H F a1 f ?_ ?_
      · rw [e]; exact s3
      · rw [e]; exact NewL.of s1' rfl id o.rep
    · exact k acc _ _ H F a1 f (s1'.after1 hf o) (NewL.of (g' := { g1 with fu := fu }) s1' rfl (fun _ => hf) o.rep)
end
section
variable {X : Cx} {elt tg iter : Expr} {ifs : List Expr} {scope : Scope} {own : List (Str × Nat)} {pos spos : Pos} {tw : DW} {t : DG} {tt : DT} {te : DE}
theorem ts_yes : PTs X [] (upT X.K dYes) := ⟨fun pins s σ H Q I q => by
  obtain ⟨c, g, tv, tr, F, a, post, st, t, k⟩ := q
  exact pts_nil.run pins s σ H Q I (k true g H F a t st)⟩
theorem e_lc (hc : X.calm = true) (hN : X.N.Nodup) (hi : PI X tg iter (upI X.K tw)) (hb : BlkOk X.N X.env.scope scope own)
    (hg : ∀ s H C cl fp, PG (X.blk s H scope (compEnvC scope cl C X.env) fp) tg (upGw X.K (own.map (·.2)) t)) (ht : ∀ s H C cl fp, PTs (X.blk s H scope (compEnvC scope cl C X.env) fp) ifs (upT X.K tt))
    (he : ∀ s H C cl fp, PE (X.blk s H scope (compEnvC scope cl C X.env) fp) elt (up X.K te)) (hfs : ∀ x, foldedSetIterable iter X.env x = pure x := by intro _; rfl) :
    PE X (.ListComp elt [{ target := tg, iter := iter, ifs := ifs, is_async := 0 }] scope pos) (upL X.K (dLc (own.map (·.2)) tw t tt te)) := pe_to (pe_lc hc hN hi hb hg ht he hfs) lc_main
theorem s_setLc {i : Nat} {y : Str} {py : Pos} (hc : X.calm = true) (hN : X.N.Nodup) (hiy : X.N[i]? = some y) (hl : X.env.scope.names.lookup y = some .local)
    (hsw : swapsWith (.ListComp elt [{ target := tg, iter := iter, ifs := ifs, is_async := 0 }] scope pos) (some (.Name y py)) spos.line X.env = pure true)
    (hi : PI X tg iter (upI X.K tw)) (hb : BlkOk X.N X.env.scope scope own)
    (hg : ∀ s H C cl fp, PG (X.blk s H scope (compEnvC scope cl C X.env) fp) tg (upGw X.K (own.map (·.2)) t)) (ht : ∀ s H C cl fp, PTs (X.blk s H scope (compEnvC scope cl C X.env) fp) ifs (upT X.K tt))
    (he : ∀ s H C cl fp, PE (X.blk s H scope (compEnvC scope cl C X.env) fp) elt (up X.K te)) (hfs : ∀ x, foldedSetIterable iter X.env x = pure x := by intro _; rfl) :
    PS X (.Assign [.Name y py] (.ListComp elt [{ target := tg, iter := iter, ifs := ifs, is_async := 0 }] scope pos) spos) (upS X.K (dSetL i (dLc (own.map (·.2)) tw t tt te))) := ps_to (ps_setLc hc hN hiy hl hsw hi hb hg ht he hfs) fun D σ H q => by
  obtain ⟨c, g, tv, tr, F, a, d, s, hn, q, k⟩ := q
  exact lc_main σ H _ ⟨c, g, tv, tr, F, a, _, s, q, fun ds g1 v H1 F1 a1 t1 s1 n1 => k.nx _ _ H1 F1 a1 t1 (s1.setOwn n1 i)⟩
end
end Z

namespace Z
open L2 PySem PySem.Spec PyProof.Rows
open Evl (Ex ex_l ex_t ex_rd fresh_back)

/-! ### built-ins by name -/
abbrev CF := List Rv → (Da → Prop) → Prop
def dCB (f : CF) (ta : DA) : DE := fun g Q => ta g fun rs g1 => f rs fun z => Q (.val z) g1
def CallOk (K : Fg) (r : List V → Hp → VK → Prop) (f : CF) : Prop := ∀ (F H : Hp) (a : Addr) (fu : Option Nat) (vs : List V) (rs : List Rv) (post : Da → Prop) (Q : VK), Ex F H → Tm K F a fu vs rs → f rs post →
  (∀ z v H' F', post z → Gr F H F' H' → Rp K F' v z → Q v H') → r vs H Q
section
variable {X : Cx} {x : Str} {p pos : Pos} {e : Expr} {es : List Expr} {tr : DA} {id T : String} {r : List V → Hp → VK → Prop} {f : CF}
theorem cb_core (hf : CallOk X.K r f) : ∀ σ H Q, up X.K (dCB f tr) σ H Q → tCB r (upA X.K tr) σ H Q := fun σ H Q q => by
  obtain ⟨c, g, tv, tr, F, ad, post, s, t, k⟩ := q
  refine ⟨c, g, tv, tr, F, ad, _, s, t, fun rs g1 vs H1 F1 a1 t1 s1 hl => ?_⟩
  obtain ⟨m1, m2⟩ := s1.tmp.args hl
  exact hf F1 H1 a1 g1.fu vs rs _ _ s1.eh m1 t1 fun z v H' F' hz gr rz => k _ g1 v H' F' a1 hz (((s1.pop m2).grow gr).push (r := .val z) rz)
theorem e_callB (hc : CallR X (.builtin id) r) (hf : CallOk X.K r f) (hg : Gl X x) (hm : X.mg x = none) (hv : bootBuiltins x = some (.builtin id)) (ha : PA X (e :: es) (upA X.K tr)) (hn : x ≠ "__name__" := by decide) (hdb : (x == ("__debug__" : Str)) = false := by decide)
    (he : starEach (e :: es) X.env = (false, eval e X.env) :: starEach es X.env := by rfl) (hpl : (backTo pos (starEach es X.env)).any (·.1) = false := by rfl) : PE X (.Call (.Name x p) (e :: es) [] pos) (up X.K (dCB f tr)) :=
  pe_to (pe_callB hc hg hm hv ha hn hdb he hpl) (cb_core hf)
theorem e_callTy (hc : CallR X (.type T) r) (hf : CallOk X.K r f) (hg : Gl X x) (hm : X.mg x = none) (hv : bootBuiltins x = some (.type T)) (ha : PA X (e :: es) (upA X.K tr)) (hn : x ≠ "__name__" := by decide) (hdb : (x == ("__debug__" : Str)) = false := by decide)
    (he : starEach (e :: es) X.env = (false, eval e X.env) :: starEach es X.env := by rfl) (hpl : (backTo pos (starEach es X.env)).any (·.1) = false := by rfl) : PE X (.Call (.Name x p) (e :: es) [] pos) (up X.K (dCB f tr)) :=
  pe_to (pe_callTy hc hg hm hv ha hn hdb he hpl) (cb_core hf)
end
section
variable {K : Fg}
theorem Tm.i1 {F : Hp} {a : Addr} {fu : Option Nat} {vs : List V} {i : Int} (h : Tm K F a fu vs [.val (.int i)]) : vs = [.int i] := by
  cases h with
  | cons h t =>
    cases t
    have h' : Rp K F _ (.int i) := h
    cases h'
    rfl
theorem Tm.i2 {F : Hp} {a : Addr} {fu : Option Nat} {vs : List V} {i j : Int} (h : Tm K F a fu vs [.val (.int i), .val (.int j)]) : vs = [.int i, .int j] := by
  cases h with
  | cons h t =>
    cases t.i1
    have h' : Rp K F _ (.int i) := h
    cases h'
    rfl
theorem Tm.v1 {F : Hp} {a : Addr} {fu : Option Nat} {vs : List V} {d : Da} (h : Tm K F a fu vs [.val d]) : ∃ v, vs = [v] ∧ Rp K F v d := by
  cases h with
  | cons h t =>
    cases t
    exact ⟨_, rfl, h⟩
def cInt1 (o : Int → Int) : CF := fun rs post => match rs with
  | [.val (.int i)] => post (.int (o i))
  | _ => False
def cInt2 (o : Int → Int → Int) : CF := fun rs post => match rs with
  | [.val (.int i), .val (.int j)] => post (.int (o i j))
  | _ => False
theorem ok_int1 {o : Int → Int} : CallOk K (fun xs H Q => ∃ i, xs = [V.int i] ∧ Q (.int (o i)) H) (cInt1 o) := fun F H a fu vs rs post Q e t hf k => by
  unfold cInt1 at hf
  split at hf
  · exact ⟨_, t.i1, k _ _ H F hf (Gr.refl e) (.int _)⟩
  · exact hf.elim
theorem ok_int2 {o : Int → Int → Int} : CallOk K (fun xs H Q => ∃ i j, xs = [V.int i, V.int j] ∧ Q (.int (o i j)) H) (cInt2 o) := fun F H a fu vs rs post Q e t hf k => by
  unfold cInt2 at hf
  split at hf
  · exact ⟨_, _, t.i2, k _ _ H F hf (Gr.refl e) (.int _)⟩
  · exact hf.elim
/-- len -/
def cLen : CF := fun rs post => match rs with
  | [.val (.list ds)] => post (.int ds.length)
  | [.val (.tuple ds)] => post (.int ds.length)
  | [.val (.str x)] => x.length ≤ sizeLine ∧ post (.int x.length)
  | [.scr ns] => post (.int ns.length)
  | _ => False
theorem ok_len : CallOk K (fun xs H Q => ∃ x n, xs = [x] ∧ LenV K x H n ∧ Q (.int n) H) cLen := fun F H a fu vs rs post Q e t hf k => by
  unfold cLen at hf
  split at hf
  · rename_i ds
    obtain ⟨v, rfl, r⟩ := t.v1
    cases r with
    | lst sq m => exact ⟨_, _, rfl, .inl ⟨_, .inl (.inl (e _ _ sq)), m.len.symm⟩, k _ _ H F hf (Gr.refl e) (.int _)⟩
  · rename_i ds
    obtain ⟨v, rfl, r⟩ := t.v1
    cases r with
    | tup sq m => exact ⟨_, _, rfl, .inr ⟨_, ex_t e sq, m.len.symm⟩, k _ _ H F hf (Gr.refl e) (.int _)⟩
  · rename_i x
    obtain ⟨v, rfl, r⟩ := t.v1
    cases r
    exact ⟨_, _, rfl, ⟨hf.1, rfl⟩, k _ _ H F hf.2 (Gr.refl e) (.int _)⟩
  · rename_i ns
    cases t with
    | cons h t =>
      cases t
      obtain ⟨b, rfl, sq⟩ := h
      exact ⟨_, _, rfl, .inl ⟨_, ex_l e sq, (List.length_map ..).symm⟩, k _ _ H F hf (Gr.refl e) (.int _)⟩
  · exact hf.elim
/-- all of a list of bools -/
def boolsD : List Da → Option (List Bool)
  | [] => some []
  | .bool b :: r => (boolsD r).map (b :: ·)
  | _ :: _ => none
theorem bools_v {F : Hp} : ∀ {vs : List V} {ds : List Da} {bs : List Bool}, Rps K F vs ds → boolsD ds = some bs → vs = bs.map V.bl
  | _, _, _, .nil, h => by cases h; rfl
  | _, d :: ds, bs, .cons r t, h => by
    cases d with
    | bool b =>
      unfold boolsD at h
      cases q : boolsD ds with
      | none => rw [q] at h; cases h
      | some cs =>
        rw [q] at h
        cases h
        cases r
        rw [bools_v t q]
        rfl
    | _ => cases h
def cAll : CF := fun rs post => match rs with
  | [.val (.list ds)] => (match boolsD ds with | some bs => post (.bool (bs.all id)) | none => False)
  | _ => False
theorem ok_all : CallOk K (rAll K) cAll := fun F H a fu vs rs post Q e t hf k => by
  unfold cAll at hf
  split at hf
  · rename_i ds
    split at hf
    · rename_i bs q
      obtain ⟨v, rfl, r⟩ := t.v1
      cases r with
      | lst sq m =>
        rw [bools_v m q] at sq
        exact ⟨_, bs, rfl, .inl (.inl (e _ _ sq)), k _ _ H F hf (Gr.refl e) (.bl _)⟩
    · exact hf.elim
  · exact hf.elim
/-- tuple(..) -/
def cTuple : CF := fun rs post => match rs with
  | [.val (.list ds)] => post (.tuple ds)
  | [.val (.tuple ds)] => post (.tuple ds)
  | _ => False
theorem ok_tuple : CallOk K (fun xs H Q => ∃ p ys, xs = [V.ref p] ∧ ((SqL K H p ys ∧ ∀ l, H l = none → Q (.ref l) (upd H l (.tup ys))) ∨ (SqT K H p ys ∧ Q (.ref p) H))) cTuple := fun F H a fu vs rs post Q e t hf k => by
  unfold cTuple at hf
  split at hf
  · rename_i ds
    obtain ⟨v, rfl, r⟩ := t.v1
    cases r with
    | lst sq m =>
      rename_i pp xs
      refine ⟨_, _, rfl, .inl ⟨.inl (.inl (e _ _ sq)), fun l hl => ?_⟩⟩
      have gr := Gr.new (o := .tup xs) e hl
      exact k _ _ _ _ hf gr (.tup (.inl (.inl upd_same)) (m.up gr.f))
  · rename_i ds
    obtain ⟨v, rfl, r⟩ := t.v1
    cases r with
    | tup sq m => exact ⟨_, _, rfl, .inr ⟨ex_t e sq, k _ _ H F hf (Gr.refl e) (.tup sq m)⟩⟩
  · exact hf.elim
/-- int(..) of an int, a bool -/
def cInt : CF := fun rs post => match rs with
  | [.val (.int i)] => post (.int i)
  | [.val (.bool b)] => post (.int (if b then 1 else 0))
  | _ => False
theorem ok_int : CallOk K (fun xs H Q => (∃ i, xs = [V.int i] ∧ Q (.int i) H) ∨ ∃ k, xs = [V.bl k] ∧ Q (.int (if k then 1 else 0)) H) cInt := fun F H a fu vs rs post Q e t hf k => by
  unfold cInt at hf
  split at hf
  · exact .inl ⟨_, t.i1, k _ _ H F hf (Gr.refl e) (.int _)⟩
  · obtain ⟨v, rfl, r⟩ := t.v1
    cases r
    exact .inr ⟨_, rfl, k _ _ H F hf (Gr.refl e) (.int _)⟩
  · exact hf.elim
end
/-! isinstance against a built-in class -/
def tyD : Da → String
  | .none => "NoneType"
  | .bool _ => "bool"
  | .int _ => "int"
  | .str _ => "str"
  | .list _ => "list"
  | .tuple _ => "tuple"
  | .dict _ => "dict"
theorem ty_v {K : Fg} {F H : Hp} {v : V} {d : Da} (e : Ex F H) (r : Rp K F v d) : TyX K H v (.type (tyD d)) := by
  cases r with
  | non => exact .base .non
  | bl b => exact .base (.bl b)
  | int i => exact .base (.int i)
  | str x => exact .base (.str x)
  | lst sq m => exact .base (.lst (e _ _ sq))
  | tup sq m =>
    rcases sq with (h | ⟨o, h⟩) | ⟨o, its, n, h1, h2, _⟩
    · exact .base (.tup (e _ _ h))
    · exact .fTuple (e _ _ h)
    · exact .kTuple h1 h2
  | dct h _ =>
    rcases h with h | ⟨o, h⟩
    · exact .base (.dK (e _ _ h))
    · exact .fDict (e _ _ h)
def isTy (T : String) (d : Da) : Bool := match d with
  | .none => T == "NoneType"
  | .bool _ => T == "bool" || T == "int"
  | .int _ => T == "int"
  | .str _ => T == "str"
  | .list _ => T == "list"
  | .tuple _ => T == "tuple"
  | .dict _ => T == "dict"
def dIsi (T : String) (ta : DE) : DE := fun g Q => ta g fun r g1 => match r with
  | .val d => Q (.val (.bool (isTy T d))) g1
  | _ => False
section
variable {X : Cx} {x : Str} {p pos : Pos} {e c : Expr} {te : DE} {T : String}
theorem e_isi (hT : ∀ d : Da, kitB (tyD d) T = some (isTy T d)) (hg : Gl X "isinstance") (hm : X.mg "isinstance" = none) (he : PE X e (up X.K te)) (hc : PE X c (tC (.ty T)))
    (h1 : starEach [e, c] X.env = (false, eval e X.env) :: starEach [c] X.env := by rfl) (h2 : starEach [c] X.env = (false, eval c X.env) :: starEach [] X.env := by rfl) (hpl : (backTo pos (starEach [c] X.env)).any (·.1) = false := by rfl) :
    PE X (.Call (.Name "isinstance" p) [e, c] [] pos) (up X.K (dIsi T te)) := pe_to (pe_callB call_isi hg hm (by decide +kernel) (pa_cons he (pa_cons hc pa_nil h2) h1) (by decide) (by decide) h1 hpl) fun σ H Q q => by
  obtain ⟨c, g, tv, tr, F, ad, post, s, t, k⟩ := q
  refine ⟨c, g, tv, tr, F, ad, _, s, t, fun r g1 v H1 F1 a1 t1 s1 => ?_⟩
  cases r with
  | val d => exact ⟨_, _, _, _, isTy T d, rfl, .ty T, ty_v s1.eh s1.top, kit_ty (hT d), k _ g1 _ H1 F1 a1 t1 (s1.pop1.push (r := .val (.bool _)) (Rp.bl _))⟩
  | _ => exact t1.elim
end
theorem kit_int : ∀ d : Da, kitB (tyD d) "int" = some (isTy "int" d)
  | .none => (by decide +kernel : kitB "NoneType" "int" = some false)
  | .bool _ => (by decide +kernel : kitB "bool" "int" = some true)
  | .int _ => (by decide +kernel : kitB "int" "int" = some true)
  | .str _ => (by decide +kernel : kitB "str" "int" = some false)
  | .list _ => (by decide +kernel : kitB "list" "int" = some false)
  | .tuple _ => (by decide +kernel : kitB "tuple" "int" = some false)
  | .dict _ => (by decide +kernel : kitB "dict" "int" = some false)
theorem kit_bool : ∀ d : Da, kitB (tyD d) "bool" = some (isTy "bool" d)
  | .none => (by decide +kernel : kitB "NoneType" "bool" = some false)
  | .bool _ => (by decide +kernel : kitB "bool" "bool" = some true)
  | .int _ => (by decide +kernel : kitB "int" "bool" = some false)
  | .str _ => (by decide +kernel : kitB "str" "bool" = some false)
  | .list _ => (by decide +kernel : kitB "list" "bool" = some false)
  | .tuple _ => (by decide +kernel : kitB "tuple" "bool" = some false)
  | .dict _ => (by decide +kernel : kitB "dict" "bool" = some false)
theorem kit_str : ∀ d : Da, kitB (tyD d) "str" = some (isTy "str" d)
  | .none => (by decide +kernel : kitB "NoneType" "str" = some false)
  | .bool _ => (by decide +kernel : kitB "bool" "str" = some false)
  | .int _ => (by decide +kernel : kitB "int" "str" = some false)
  | .str _ => (by decide +kernel : kitB "str" "str" = some true)
  | .list _ => (by decide +kernel : kitB "list" "str" = some false)
  | .tuple _ => (by decide +kernel : kitB "tuple" "str" = some false)
  | .dict _ => (by decide +kernel : kitB "dict" "str" = some false)
theorem kit_tuple : ∀ d : Da, kitB (tyD d) "tuple" = some (isTy "tuple" d)
  | .none => (by decide +kernel : kitB "NoneType" "tuple" = some false)
  | .bool _ => (by decide +kernel : kitB "bool" "tuple" = some false)
  | .int _ => (by decide +kernel : kitB "int" "tuple" = some false)
  | .str _ => (by decide +kernel : kitB "str" "tuple" = some false)
  | .list _ => (by decide +kernel : kitB "list" "tuple" = some false)
  | .tuple _ => (by decide +kernel : kitB "tuple" "tuple" = some true)
  | .dict _ => (by decide +kernel : kitB "dict" "tuple" = some false)
theorem kit_list : ∀ d : Da, kitB (tyD d) "list" = some (isTy "list" d)
  | .none => (by decide +kernel : kitB "NoneType" "list" = some false)
  | .bool _ => (by decide +kernel : kitB "bool" "list" = some false)
  | .int _ => (by decide +kernel : kitB "int" "list" = some false)
  | .str _ => (by decide +kernel : kitB "str" "list" = some false)
  | .list _ => (by decide +kernel : kitB "list" "list" = some true)
  | .tuple _ => (by decide +kernel : kitB "tuple" "list" = some false)
  | .dict _ => (by decide +kernel : kitB "dict" "list" = some false)
theorem kit_dict : ∀ d : Da, kitB (tyD d) "dict" = some (isTy "dict" d)
  | .none => (by decide +kernel : kitB "NoneType" "dict" = some false)
  | .bool _ => (by decide +kernel : kitB "bool" "dict" = some false)
  | .int _ => (by decide +kernel : kitB "int" "dict" = some false)
  | .str _ => (by decide +kernel : kitB "str" "dict" = some false)
  | .list _ => (by decide +kernel : kitB "list" "dict" = some false)
  | .tuple _ => (by decide +kernel : kitB "tuple" "dict" = some false)
  | .dict _ => (by decide +kernel : kitB "dict" "dict" = some true)
/-! n.bit_length() -/
def dBits (te : DE) : DE := fun g Q => te g fun r g1 => match r with
  | .val (.int i) => Q (.val (.int (Builtin.Int.intBits i : Nat))) g1
  | _ => False
section
variable {X : Cx} {o : Expr} {te : DE} {apos pos : Pos}
theorem e_bits (ho : PE X o (up X.K te)) (hb : attributeBase o "bit_length" X.env (eval o X.env) = eval o X.env := by rfl) (hl : (apos.endLine == pos.line) = true := by rfl) : PE X (.Call (.Attribute o "bit_length" apos) [] [] pos) (up X.K (dBits te)) :=
  pe_to (pe_bits ho hb hl) fun σ H Q q => by
  obtain ⟨c, g, tv, tr, F, ad, post, s, t, k⟩ := q
  refine ⟨c, g, tv, tr, F, ad, _, s, t, fun r g1 v H1 F1 a1 t1 s1 => ?_⟩
  cases r with
  | val d =>
    cases d with
    | int i =>
      have hr : Rp X.K F1 v (.int i) := s1.top
      cases hr
      exact ⟨i, rfl, k _ g1 _ H1 F1 a1 t1 (s1.pop1.push (r := .val (.int _)) (Rp.int _))⟩
    | _ => exact t1.elim
  | _ => exact t1.elim
end
/-! zip of two lists or two tuples -/
section
variable {K : Fg}
theorem walkD_zipL {p q : Addr} {ds es : List Da} : WalkD K (Itz K p q) (zipD ds es) [.ref q, .ref p] [.val (.list es), .val (.list ds)] := by
  have get : ∀ {F H : Hp} {a : Addr} {fu : Option Nat}, Ex F H → Tm K F a fu [.ref q, .ref p] [.val (.list es), .val (.list ds)] → ∃ xs ys, SqL K H p xs ∧ SqL K H q ys ∧ Rps K F xs ds ∧ Rps K F ys es := fun {F H a fu} e t => by
    cases t with
    | cons h t =>
      obtain ⟨v, e1, h2⟩ := t.v1
      cases e1
      have h' : Rp K F (.ref q) (.list es) := h
      cases h' with
      | lst sq m =>
        cases h2 with
        | lst sq2 m2 => exact ⟨_, _, .inl (.inl (e _ _ sq2)), .inl (.inl (e _ _ sq)), m2, m⟩
  refine ⟨fun i F H a fu e t hi => ?_, fun F H a fu e t => ?_, fun i F H a fu x H' e t hi y => ?_⟩
  · obtain ⟨xs, ys, s1, s2, m1, m2⟩ := get e t
    rw [zipD_len] at hi
    obtain ⟨v, h1, _⟩ := m1.get (List.getElem?_eq_getElem (show i < ds.length by omega))
    obtain ⟨w, h2, _⟩ := m2.get (List.getElem?_eq_getElem (show i < es.length by omega))
    exact ⟨xs, ys, v, w, s1, s2, h1, h2⟩
  · obtain ⟨xs, ys, s1, s2, m1, m2⟩ := get e t
    refine ⟨xs, ys, s1, s2, ?_⟩
    rw [zipD_len, m1.len, m2.len]
    omega
  · obtain ⟨xs, ys, s1, s2, m1, m2⟩ := get e t
    obtain ⟨T, u, w, rfl, nT, rfl, h1, h2⟩ := y
    rw [zipD_len] at hi
    have g1 : ds[i]? = some ds[i] := List.getElem?_eq_getElem (by omega)
    have g2 : es[i]? = some es[i] := List.getElem?_eq_getElem (by omega)
    obtain ⟨u', e1, r1⟩ := m1.get g1
    obtain ⟨w', e2, r2⟩ := m2.get g2
    rw [h1 xs s1] at e1
    rw [h2 ys s2] at e2
    cases e1
    cases e2
    have gr := Gr.new (o := .tup [u, w]) e nT
    exact ⟨_, _, zipD_get ds es i _ _ g1 g2, gr, .tup (.inl (.inl upd_same)) (.cons (r1.up gr.f) (.cons (r2.up gr.f) .nil))⟩
theorem walkD_zipT {p q : Addr} {ds es : List Da} : WalkD K (RZ.ItzT K p q) (zipD ds es) [.ref q, .ref p] [.val (.tuple es), .val (.tuple ds)] := by
  have get : ∀ {F H : Hp} {a : Addr} {fu : Option Nat}, Ex F H → Tm K F a fu [.ref q, .ref p] [.val (.tuple es), .val (.tuple ds)] → ∃ xs ys, SqT K H p xs ∧ SqT K H q ys ∧ Rps K F xs ds ∧ Rps K F ys es := fun {F H a fu} e t => by
    cases t with
    | cons h t =>
      obtain ⟨v, e1, h2⟩ := t.v1
      cases e1
      have h' : Rp K F (.ref q) (.tuple es) := h
      cases h' with
      | tup sq m =>
        cases h2 with
        | tup sq2 m2 => exact ⟨_, _, ex_t e sq2, ex_t e sq, m2, m⟩
  refine ⟨fun i F H a fu e t hi => ?_, fun F H a fu e t => ?_, fun i F H a fu x H' e t hi y => ?_⟩
  · obtain ⟨xs, ys, s1, s2, m1, m2⟩ := get e t
    rw [zipD_len] at hi
    obtain ⟨v, h1, _⟩ := m1.get (List.getElem?_eq_getElem (show i < ds.length by omega))
    obtain ⟨w, h2, _⟩ := m2.get (List.getElem?_eq_getElem (show i < es.length by omega))
    exact ⟨xs, ys, v, w, s1, s2, h1, h2⟩
  · obtain ⟨xs, ys, s1, s2, m1, m2⟩ := get e t
    refine ⟨xs, ys, s1, s2, ?_⟩
    rw [zipD_len, m1.len, m2.len]
    omega
  · obtain ⟨xs, ys, s1, s2, m1, m2⟩ := get e t
    obtain ⟨T, u, w, rfl, nT, rfl, h1, h2⟩ := y
    rw [zipD_len] at hi
    have g1 : ds[i]? = some ds[i] := List.getElem?_eq_getElem (by omega)
    have g2 : es[i]? = some es[i] := List.getElem?_eq_getElem (by omega)
    obtain ⟨u', e1, r1⟩ := m1.get g1
    obtain ⟨w', e2, r2⟩ := m2.get g2
    rw [h1 xs s1] at e1
    rw [h2 ys s2] at e2
    cases e1
    cases e2
    have gr := Gr.new (o := .tup [u, w]) e nT
    exact ⟨_, _, zipD_get ds es i _ _ g1 g2, gr, .tup (.inl (.inl upd_same)) (.cons (r1.up gr.f) (.cons (r2.up gr.f) .nil))⟩
end
section
variable {X : Cx} {a b : Expr} {ta tb : DE} {p pos tpos : Pos} {elts : List Expr} {kk : Nat}
theorem i_zip (hg : Gl X "zip") (hm : X.mg "zip" = none) (ha : PE X a (up X.K ta)) (hb : PE X b (up X.K tb)) (hs : starEach [a, b] X.env = (false, eval a X.env) :: starEach [b] X.env := by rfl) (hs2 : starEach [b] X.env = (false, eval b X.env) :: starEach [] X.env := by rfl)
    (hpl : (backTo pos (starEach [b] X.env)).any (·.1) = false := by rfl) : PI X (.Tuple elts kk tpos) (.Call (.Name "zip" p) [a, b] [] pos) (upI X.K (dZip ta tb)) := pi_to (RZ.pi_zipA hg hm (pa_cons ha (pa_cons hb pa_nil hs2) hs) hs hpl) fun σ H R q => by
  obtain ⟨c, g, tv, tr, F, a, post, s, t, k⟩ := q
  refine ⟨c, g, tv, tr, F, a, _, s, t, fun r g1 v H1 F1 a1 t1 s1 => ?_⟩
  refine ⟨c, g1, _, _, F1, a1, _, s1, t1, fun r2 g2 v2 H2 F2 a2 t2 s2 => ?_⟩
  split at t2
  · rename_i xs ys
    have hr : Rp X.K F2 v (.tuple xs) := s2.pop1.top
    have hr2 : Rp X.K F2 v2 (.tuple ys) := s2.top
    cases hr with
    | tup q1 m1 =>
      cases hr2 with
      | tup q2 m2 => exact ⟨_, _, _, _, rfl, .inr ⟨ex_t s2.eh q1, ex_t s2.eh q2, k _ g2 H2 F2 a2 _ [_, _] [_, _] t2 s2 rfl rfl walkD_zipT⟩⟩
  · rename_i xs ys
    have hr : Rp X.K F2 v (.list xs) := s2.pop1.top
    have hr2 : Rp X.K F2 v2 (.list ys) := s2.top
    cases hr with
    | lst q1 m1 =>
      cases hr2 with
      | lst q2 m2 => exact ⟨_, _, _, _, rfl, .inl ⟨.inl (.inl (s2.eh _ _ q1)), .inl (.inl (s2.eh _ _ q2)), k _ g2 H2 F2 a2 _ [_, _] [_, _] t2 s2 rfl rfl walkD_zipL⟩⟩
  · exact t2.elim
end
/-! ### a def by its body, told by data -/
def svOf : Rv → Option Sv := fun r => some (rsv r)
section
variable {P : Program} {w : World} {K : Fg} {mg : Str → Option Value} {base : Heap} {CX : CXT}
def ent (N : List Str) (rs : List Rv) (fu : Option Nat) : Gs := ⟨rs.map svOf ++ List.replicate (N.length - rs.length) none, fu, fu.isNone⟩
theorem Tm.len : ∀ {F : Hp} {a : Addr} {fu : Option Nat} {vs : List V} {rs : List Rv}, Tm K F a fu vs rs → vs.length = rs.length
  | _, _, _, _, _, .nil => rfl
  | _, _, _, _, _, .cons _ t => congrArg (· + 1) t.len
theorem Tm.get : ∀ {F : Hp} {a : Addr} {fu : Option Nat} {vs : List V} {rs : List Rv} {i : Nat} {r : Rv}, Tm K F a fu vs rs → rs[i]? = some r → ∃ v, vs[i]? = some v ∧ RvOk K F a fu v r
  | _, _, _, _, _, _, _, .nil, e => by simp at e
  | _, _, _, _, _, 0, _, .cons r _, e => by simp at e; subst e; exact ⟨_, rfl, r⟩
  | _, _, _, _, _, i + 1, r, .cons _ t, e => by
    obtain ⟨u, h1, h2⟩ := Tm.get (i := i) (r := r) t (by simpa using e)
    exact ⟨u, by simpa using h1, h2⟩
theorem sta_ent {N : List Str} {F H : Hp} {a : Addr} {fu : Option Nat} {vs : List V} {rs : List Rv} (e : Ex F H) (t : Tm K F a fu vs rs) (hs : ∀ n, fu = some n → F a = none ∧ SrcAt H a n) :
    Sta K ⟨F, H, if fu = none then none else some a⟩ (ent N rs fu) (L2.start N vs) H [] [] F a := by
  have atS : ∀ (i : Nat) s, (ent N rs fu).sl[i]? = some (some s) → ∃ r, rs[i]? = some r ∧ s = rsv r := fun i s h => by
    have h' : (rs.map svOf ++ List.replicate (N.length - rs.length) none)[i]? = some (some s) := h
    by_cases hi : i < rs.length
    · rw [List.getElem?_append_left (by simpa using hi), List.getElem?_map, List.getElem?_eq_getElem hi] at h'
      cases h'
      exact ⟨_, List.getElem?_eq_getElem hi, rfl⟩
    · rw [List.getElem?_append_right (by simpa using hi), List.getElem?_replicate] at h'
      split at h' <;> cases h'
  have noO : ∀ (i : Nat) ds, (ent N rs fu).sl[i]? = some (some (.own ds)) → False := fun i ds h => by
    obtain ⟨r, _, e⟩ := atS i _ h
    cases r <;> cases e
  refine ⟨Ex.refl F, e, fun b o _ h => h, fun b h => .inl h, fun b h => ?_, fun h => ?_, fun n h => ?_, .nil, ?_, fun i s h => ?_, fun i j ds es _ h => (noO i ds h).elim⟩
  · by_cases hf : fu = none
    · simp [hf] at h
    · simp [hf] at h
      exact ⟨h, hf⟩
  · have h' : fu = none := Option.isNone_iff_eq_none.mp h
    exact if_pos h'
  · have h' : fu = some n := h
    exact ⟨(hs n h').1, .inl (if_neg (ne_none h')), (hs n h').2⟩
  · unfold L2.start ent
    rw [List.length_append, List.length_append, List.length_map, List.length_map, t.len, List.length_replicate, List.length_replicate]
  · obtain ⟨r, h1, rfl⟩ := atS i s h
    obtain ⟨v, h2, h3⟩ := t.get h1
    have hi : i < vs.length := (List.getElem?_eq_some_iff.mp h2).1
    refine ⟨v, ?_, ?_⟩
    · unfold L2.start
      rw [List.getElem?_append_left (by simpa using hi), List.getElem?_map, h2]
      rfl
    · cases r <;> exact h3
theorem fn_data {x qual : Str} {st : Stmt} {f : Addr} {fd : FuncData} {N ps : List Str} {k : Nat} {fs : FSp} (Fu : Fun K x qual st f fd) (S : FnScope N ps (defScope st)) (tb : DS)
    (hd : ∀ (cdv : Value) (A : Around) (outer : List Env) (s : Shared) (H : Hp) (E : XK), Room k (A.deeper (envOfC qual (defScope st) s.heap.objs.size f cdv)) → (A.deeper (envOfC qual (defScope st) s.heap.objs.size f cdv)).guards = some [] →
      PSs (cxOf CX P w K mg base N qual (defScope st) f cdv A outer s H E).nox (defBody st) (upS K tb))
    (hb : ∀ rs fu post, rs.length = ps.length → fs rs fu post → tb ⟨fun g => post (.val .none) g.fu, fun r g => post r g.fu, fun _ => False, fun _ => False⟩ (ent N rs fu)) : Fn P w K mg base CX (k + 1) f fd ps (lift K ps.length fs) := by
  refine fn_by Fu S lift_len fun cdv A outer s H vs Q E hr hg h => ⟨_, (hd cdv A outer s H E hr hg).nox, ?_⟩
  obtain ⟨F, a, rs, fu, post, e, t, hl, hs, hf, hq⟩ := h
  have st0 := sta_ent (N := N) e t hs
  have fin : ∀ {g : Gs} {σ : L2.St} {H' F' : Hp} {tv : List V} {tr : List Rv} {a' : Addr} {v : V} {r : Rr}, Sta K ⟨F, H, if fu = none then none else some a⟩ g σ H' tv tr F' a' → RrOk K F' H H' v r → Out K F H a fu g.fu F' H' v r := fun {g σ H' F' tv tr a' v r} s hr => by
    refine ⟨s.e0, s.eh, fun b o hb h => s.keep b o (fun z => ?_) h, s.new, fun hf => ?_, hr⟩
    · by_cases hf : fu = none
      · simp [hf] at z
      · simp [hf] at z
        exact hb hf z.symm
    · obtain ⟨e1, e2⟩ := s.ex a (if_neg hf)
      subst e1
      cases q : g.fu with
      | none => exact absurd q e2
      | some n => exact ⟨n, rfl, (s.src n q).1, (s.src n q).2.2⟩
  refine ⟨_, _, [], [], F, a, _, st0, rfl, hb rs fu post (by rw [← t.len]; exact hl) hf, ⟨fun g σ H' F' a' h s => ?_, fun g σ H' F' a' h s => h, fun g σ H' F' a' h s => h, fun x g σ v H' F' a' h s => ?_, fun ds g σ v H' F' a' h s n => ?_⟩⟩
  · exact hq _ _ _ H' F' h (fin s (r := .val .none) Rp.non)
  · exact hq _ _ _ H' F' h (fin s (r := .val x) s.top)
  · obtain ⟨o, xs, q1, q2, q3, q4, q5, _⟩ := n.ex
    exact hq _ _ _ H' F' h (fin s (r := .own ds) ⟨o, xs, q1, q3, q2, q4, q5⟩)
end
end Z

namespace Z
open L2 PySem PySem.Spec PyProof.Rows
open Evl (Ex ex_l ex_t ex_rd fresh_back)

/-! ### the end: the law's own call -/
section
variable {P : Program} {w : World} {K : Fg} {mg mb : Str → Option Value} {k : Nat} {fa a : Addr} {fd : FuncData} {x : Str} {s₁ : Shared} {vs : List Value} {ns : List Int} {fs : FSp}
theorem end_at {H : Hp} (KX : K.In s₁.heap) (hns : s₁.heap.Ns mainGlobals mg) (hb : s₁.heap.Ns builtinsNs mb) (hbb : ∀ x : Str, x ≠ "__name__" → mb x = bootBuiltins x) (hlim : s₁.heap.NoLimit) (hg : s₁.gens = #[])
    (ha : s₁.heap.get? a = some { cls := .type "list", data := .seq vs.toArray }) (hr : Room k callerA)
    (Fu : ∀ base : Heap, K.In base → base.Ns mainGlobals mg → Fn P w K mg base CX0 k fa fd [x] (lift K 1 fs)) (hbind : ∀ (s : Shared) (u : Value), BindsTo s fd ⟨[u], []⟩ [(x, u)])
    (hsp : fs [.scr ns] none fun r _ => r = .val (.bool true)) (hO : Only H) (hS : SqL K H a (ns.map V.int)) (hok : HOk P w H s₁.heap) (hA : ∀ b, H b ≠ none → b = a) (hK : H a ≠ none → K.lookup a = none) :
    codeAny (model P w) callerA (.call (.ref fa) ⟨[.ref a], []⟩) (fun r s' => r = .ok (.ret (.bool true)) ∧ OldK s₁.heap s'.heap ∧ s'.os = s₁.os ∧ AllBare s'.gens) s₁ := by
  have noD : ∀ {b : Addr} {o : Obj}, s₁.heap.get? b = some o → (∃ es ep, o.data = .dict es ep) → H b = none := fun {b o} e ⟨es, ep, d⟩ => by
    cases q : H b with
    | none => rfl
    | some u =>
      cases hA b (ne_none q)
      rw [ha] at e
      cases e
      cases (show Data.seq vs.toArray _ = Data.dict es ep from d)
  have nsK : ∀ {b : Addr} {m : Str → Option Value}, s₁.heap.Ns b m → (hidT s₁.heap H).Ns b m := fun {b m} z => by
    obtain ⟨o, es, ep, e, d, r⟩ := z
    exact ⟨o, es, ep, hidT_get e (noD e ⟨es, ep, d⟩), d, r⟩
  have hKb : K.In (hidT s₁.heap H) := fun b o e => hidT_get (KX b o e) (by
    cases q : H b with
    | none => rfl
    | some u =>
      have hb := hA b (ne_none q)
      subst hb
      rw [hK (ne_none q)] at e
      cases e)
  obtain ⟨mc, h1, h2⟩ := hlim
  have e0 : Env0 P w K mg (hidT s₁.heap H) callerA [] s₁ H :=
    { frames := rfl, mod := ⟨hKb, nsK hns, ⟨mb, nsK hb, hbb⟩, ⟨mc, nsK h1, h2⟩⟩, bs := fun b o e => of_hidT e, bsz := Nat.le_of_eq (hidT_size _ _), funs := trivial
      frf := fun b hb => absurd (show b ∈ ([] : List Addr) from hb) (by simp), hok := hok, bare := .of_eq hg }
  have pr : lift K 1 fs [.ref a] H (fun v _ => v = .bl true) fun _ _ _ => False :=
    ⟨H, a, [.scr ns], none, _, Ex.refl H, .cons ⟨a, rfl, hS⟩ .nil, rfl, fun n z => (by cases z), hsp, fun r fu' v H' F' e o => by
      subst e
      have q : Rp K F' v (.bool true) := o.rep
      cases q
      rfl⟩
  refine codeAny_mono ((Fu _ hKb (nsK hns)).run callerA [] s₁ H ⟨[.ref a], []⟩ [.ref a] [.ref a] _ _ hr rfl e0 (hbind s₁ (.ref a)) (.cons rfl .nil) pr) fun r s' h => ?_
  match r, h with
  | .error e, h => exact False.elim h
  | .ok .next, h => exact False.elim h
  | .ok .brk, h => exact False.elim h
  | .ok .cont, h => exact False.elim h
  | .ok (.ret u), ⟨v, H', os, bare, un, hok', rv, q⟩ =>
    have q' : v = .bl true := q
    subst q'
    have ru : u = Value.bool true := rv
    subst ru
    refine ⟨rfl, OldK.of_keep fun b o e => ?_, os, bare⟩
    rcases hO b with z | ⟨ob, xs, z⟩
    · exact un.keep b o e z (fun z => absurd (show b ∈ ([] : List Addr) from z) (by simp)) (by simp)
    · obtain ⟨e1, _⟩ := hok b _ z
      obtain ⟨e2, _⟩ := hok' b _ (un.frzs b ob _ z)
      rw [e] at e1
      cases e1
      exact e2
theorem end_call (KX : K.In s₁.heap) (hns : s₁.heap.Ns mainGlobals mg) (hb : s₁.heap.Ns builtinsNs mb) (hbb : ∀ x : Str, x ≠ "__name__" → mb x = bootBuiltins x) (hlim : s₁.heap.NoLimit) (hg : s₁.gens = #[])
    (ha : s₁.heap.get? a = some { cls := .type "list", data := .seq vs.toArray }) (hi : IntsAre vs ns) (hl : ns.length ≤ sizeLine) (hr : Room k callerA)
    (Fu : ∀ base : Heap, K.In base → base.Ns mainGlobals mg → Fn P w K mg base CX0 k fa fd [x] (lift K 1 fs)) (hbind : ∀ (s : Shared) (u : Value), BindsTo s fd ⟨[u], []⟩ [(x, u)])
    (hsp : fs [.scr ns] none fun r _ => r = .val (.bool true)) :
    codeAny (model P w) callerA (.call (.ref fa) ⟨[.ref a], []⟩) (fun r s' => r = .ok (.ret (.bool true)) ∧ OldK s₁.heap s'.heap ∧ s'.os = s₁.os ∧ AllBare s'.gens) s₁ := by
  have rv := vals_ints hi
  cases hk : K.lookup a with
  | some o =>
    have e := KX a o hk
    rw [ha] at e
    cases e
    have sz : vs.toArray.size ≤ sizeLine := by rw [List.size_toArray, hi.length]; exact hl
    exact end_at (H := fun _ => none) KX hns hb hbb hlim hg ha hr Fu hbind hsp (fun _ => .inl rfl) (.inr ⟨_, vs.toArray, _, hk, rfl, rfl, rfl, sz, by simpa using rv⟩) (fun b u z => by cases (show (none : Option HO) = some u from z)) (fun b z => absurd rfl z) fun z => absurd rfl z
  | none =>
    let ob : Obj := { cls := .type "list", data := .seq vs.toArray }
    have at_a : ∀ {b : Addr} {u : HO}, (if b = a then some (HO.frz ob (.lst (ns.map V.int))) else none) = some u → b = a ∧ u = .frz ob (.lst (ns.map V.int)) := fun {b u} z => by
      by_cases h : b = a
      · rw [if_pos h] at z
        exact ⟨h, (Option.some.inj z).symm⟩
      · rw [if_neg h] at z
        cases z
    refine end_at (H := fun b => if b = a then some (.frz ob (.lst (ns.map V.int))) else none) KX hns hb hbb hlim hg ha hr Fu hbind hsp (fun b => ?_) (.inl (.inr ⟨ob, if_pos rfl⟩)) (fun b u z => ?_) (fun b z => ?_) fun _ => hk
    · by_cases h : b = a
      · exact .inr ⟨ob, _, if_pos h⟩
      · exact .inl (if_neg h)
    · obtain ⟨rfl, rfl⟩ := at_a z
      exact ⟨ha, by rw [List.length_map]; exact hl, vs, _, rv, ha⟩
    · exact Classical.byContradiction fun h => z (if_neg h)
end
theorem end_of {l : PySem.W.OpenLaw} {n k : Nat} {q : Program} {loose : List Str} {XP : (Str → Option Value) → Heap → Prop} {YP : World → Heap → Prop} {d : DefRec} {K : Params → PySem.W.Frag} {fs : FSp} {x : Str}
    (hn : l.most = some n) (hn2 : n ≤ sizeLine) (hdf : d.params.defaults = []) (hr : Room k callerA) (hY : ∀ (w : World) (h : Heap), YP w h → (K w.params).In h)
    (Fu : ∀ (w : World) (mg : Str → Option Value) (fa : Addr) (h : Heap), (K w.params).In h → h.Ns mainGlobals mg → mg d.name = some (.ref fa) →
      ∃ fd : FuncData, (∀ (s : Shared) (u : Value), BindsTo s fd ⟨[u], []⟩ [(x, u)]) ∧ ∀ base : Heap, (K w.params).In base → base.Ns mainGlobals mg → Fn l.prog w (K w.params) mg base CX0 k fa fd [x] (lift (K w.params) 1 fs))
    (hsp : ∀ ns : List Int, ns.length ≤ n → fs [.scr ns] none fun r _ => r = .val (.bool true)) : PySem.W.WalkO q loose XP YP l.row.toRowW d [] (fun f vs => PySem.call f vs) := by
  refine Att.attach_call hn hdf fun w s₀ s₁ mg mb fa o pm cd doc a vs ns G Y ho hd hcd hmg hobj hints hlen hg => ?_
  obtain ⟨fd, hb, hF⟩ := Fu w mg fa _ (hY w _ Y) G.T.g hmg
  exact end_call (hY w _ Y) G.T.g G.T.b G.T.builtins G.T.nolimit hg hobj hints (Nat.le_trans hlen hn2) hr hF hb (hsp ns hlen)
end Z

namespace Z
open L2 PySem PySem.Spec PyProof.Rows
open Evl (Ex ex_l ex_t ex_rd fresh_back)

/-! ### sources of draws -/
def SrcD (ds : List Da) (n : Nat) : Prop := ∃ x y z : Int, ds = [.int x, .int y, .int z] ∧ 0 ≤ x ∧ x < 2 ^ 1000 ∧ 0 ≤ y ∧ y < modS ∧ 0 ≤ z ∧ z + n ≤ 2 ^ 40
def noSrc : Option Sv → Option Sv
  | some .src => none
  | x => x
/-- x = a new source, good for n draws -/
def dSetS (n i : Nat) (tl : DL) : DS := fun d g => g.ow = true ∧ tl g fun ds g1 => g1.ow = true ∧ SrcD ds n ∧ d.nx ⟨(g1.sl.map noSrc).set i (some .src), some n, true⟩
/-- f(a new source, constants ..) -/
def dCallS (np n : Nat) (fs : FSp) (tl : DL) (rs : List Rv) : DE := fun g Q => tl g fun ds g1 => SrcD ds n ∧ rs.length + 1 = np ∧ fs (.src :: rs) (some n) fun r _ => Q (rrv r) g1
section
variable {K : Fg} {c : Con} {g : Gs} {σ : L2.St} {H F H' F' : Hp} {tv : List V} {tr : List Rv} {a : Addr}
theorem Rps.three {xs : List V} {x y z : Int} (h : Rps K F xs [.int x, .int y, .int z]) : xs = [.int x, .int y, .int z] := by
  cases h with
  | cons h1 h =>
    cases h with
    | cons h2 h =>
      cases h with
      | cons h3 h =>
        cases h
        cases h1
        cases h2
        cases h3
        rfl
theorem SrcD.at {ds : List Da} {n : Nat} (h : SrcD ds n) {o : Addr} {xs : List V} (hH : H o = some (.lst xs)) (m : Rps K F xs ds) : SrcAt H o n := by
  obtain ⟨x, y, z, rfl, h⟩ := h
  rw [m.three] at hH
  exact ⟨x, y, z, hH, h⟩
theorem noSrc_some {sl : List (Option Sv)} {i : Nat} {s : Sv} (h : (sl.map noSrc)[i]? = some (some s)) : sl[i]? = some (some s) ∧ s ≠ .src := by
  rw [List.getElem?_map] at h
  cases q : sl[i]? with
  | none => rw [q] at h; cases h
  | some x =>
    rw [q] at h
    have h3 : noSrc x = some s := Option.some.inj h
    cases x with
    | none => cases h3
    | some y => cases y <;> first | (cases h3; exact ⟨rfl, fun z => nomatch z⟩) | cases h3
theorem Sta.setSrc (s : Sta K c g σ H tv tr F a) {v : V} {ds : List Da} {n : Nat} (h : NewL K c g σ H F a v ds) (hs : SrcD ds n) (how : g.ow = true) (hn : hasSrc tr = false) (i : Nat) :
    ∃ o, Sta K c ⟨(g.sl.map noSrc).set i (some .src), some n, true⟩ (σ.set i (some v)) H tv tr F o := by
  obtain ⟨o, xs, rfl, q2, q3, q4, q5, q6, q7⟩ := h.ex
  have e0 := s.ow how
  refine ⟨o, s.e0, s.eh, s.keep, s.new, fun b z => by (rw [e0] at z; cases z), fun _ => e0, fun m hm => ?_, ?_, ?_, fun j sv hj => ?_, fun j k es fs hjk hj hk => ?_⟩
  · cases hm
    exact ⟨q2, .inr ⟨e0, q3⟩, hs.at q4 q5⟩
  · have t0 : Tm K F o none tv tr := by
      have t1 := s.tmp.noSrc hn
      clear s h
      induction t1 with
      | nil => exact .nil
      | @cons v vs r rs h t ih =>
        cases r with
        | val d => exact .cons (show Rp K F v d from h) (ih hn)
        | scr ns => exact .cons h (ih hn)
        | src => cases hn
    exact Tm.refu (fu' := some n) (fun z => nomatch z) t0
  · rw [List.length_set, List.length_set, List.length_map]; exact s.len
  · rcases set_some hj with ⟨rfl, hl, e⟩ | ⟨ne, e⟩
    · cases e
      rw [List.length_map] at hl
      exact ⟨_, List.getElem?_set_self (by rw [s.len]; exact hl), rfl, fun z => nomatch z⟩
    · obtain ⟨e1, e2⟩ := noSrc_some e
      obtain ⟨w, h1, h2⟩ := s.slot j sv e1
      refine ⟨w, by rw [List.getElem?_set_ne (Ne.symm ne)]; exact h1, ?_⟩
      cases sv with
      | val d => exact h2
      | src => exact absurd rfl e2
      | scr ns => exact h2
      | own es =>
        obtain ⟨p, ys, r1, r2, r3, r4, r5, r6⟩ := h2
        exact ⟨p, ys, r1, r2, r3, r4, r5, fun _ z => q7 j es e1 (by rw [h1, r1, z])⟩
  · have no : ∀ k fs, ((g.sl.map noSrc).set i (some Sv.src))[k]? = some (some (Sv.own fs)) → k ≠ i ∧ g.sl[k]? = some (some (Sv.own fs)) := fun k fs h => by
      rcases set_some h with ⟨_, _, e⟩ | ⟨z, e⟩
      · cases e
      · exact ⟨z, (noSrc_some e).1⟩
    obtain ⟨n1, e1⟩ := no j es hj
    obtain ⟨n2, e2⟩ := no k fs hk
    rw [List.getElem?_set_ne (Ne.symm n1), List.getElem?_set_ne (Ne.symm n2)]
    exact s.dis j k es fs hjk e1 e2
/-- behind a call that had a source of its own -/
theorem Sta.after2 (s : Sta K c g σ H tv tr F a) {v u : V} {r : Rr} {ds : List Da} {n : Nat} {fu' : Option Nat} {o : Addr} (h : NewL K c g σ H F a (.ref o) ds) (ou : Out K F H o (some n) fu' F' H' u r) : Sta K c g σ H' tv tr F' a := by
  obtain ⟨o', xs, eo, q2, q3, q4, q5, q6, q7⟩ := h.ex
  cases eo
  have keepN : ∀ b x, b ≠ o → H b = some x → H' b = some x := fun b x hb e => ou.keep b x (fun _ => hb) e
  have oldF : ∀ b, H b ≠ none → F b = none → F' b = none := fun b h1 h2 => by
    cases q : F' b with
    | none => rfl
    | some u =>
      rcases ou.new b (ne_none q) with z | z
      · exact absurd h2 z
      · exact absurd z h1
  refine ⟨s.e0.trans ou.f, ou.s, fun b x z1 z2 => keepN b x (fun z => by rw [z, q3] at z2; cases z2) (s.keep b x z1 z2), fun b q => ?_, s.ex, s.ow, fun m hm => ?_, s.tmp.up ou.f, s.len, fun j sv hj => ?_, s.dis⟩
  · rcases ou.new b q with z | z
    · exact s.new b z
    · exact .inr (s.fresh z)
  · obtain ⟨z1, z2, x, y, z, e, z3⟩ := s.src m hm
    exact ⟨oldF a (ne_none e) z1, z2, x, y, z, keepN a _ (fun w => q6 (ne_none hm) w.symm) e, z3⟩
  · obtain ⟨w, h1, h2⟩ := s.slot j sv hj
    refine ⟨w, h1, ?_⟩
    cases sv with
    | val d => exact Rp.up h2 ou.f
    | src => exact h2
    | scr ns => obtain ⟨b, z1, z2⟩ := h2; exact ⟨b, z1, ex_l ou.f z2⟩
    | own es =>
      obtain ⟨p, ys, r1, r2, r3, r4, r5, r6⟩ := h2
      exact ⟨p, ys, r1, oldF p (ne_none r4) r2, r3, keepN p _ (fun z => q7 j es hj (by rw [h1, r1, z])) r4, r5.up ou.f, r6⟩
end
section
variable {X : Cx} {e : Expr} {tl : DL} {pos : Pos}
theorem s_setS (n : Nat) {i : Nat} {x : Str} {pos' : Pos} (hN : X.N.Nodup) (hi : X.N[i]? = some x) (hx : L2.Loc X.env.scope x) (he : PE X e (upL X.K tl)) (h1 : swapsWith e (some (.Name x pos')) pos.line X.env = pure false := by rfl)
    (hf : X.fn x = true ∨ X.env.scope.names.lookup x = some .local := by first | exact .inl rfl | exact .inr rfl) : PS X (.Assign [.Name x pos'] e pos) (upS X.K (dSetS n i tl)) := ps_to (ps_set hN hi hx he h1 hf) fun D σ H q => by
  obtain ⟨c, g, tv, tr, F, a, d, s, hn, t, k⟩ := q
  refine ⟨c, g, tv, tr, F, a, _, s, t.2, fun ds g1 v H1 F1 a1 t1 s1 n1 => ?_⟩
  obtain ⟨o, s2⟩ := s1.setSrc n1 t1.2.1 t1.1 hn i
  exact k.nx _ _ H1 F1 o t1.2.2 s2
variable {CX : CXT} {k : Nat} {f : Addr} {fd : FuncData} {ps : List Str} {fs : FSp} {x : Str} {p : Pos} {es : List Expr} {np : Nat} {E : XK} {vs : List V} {rs : List Rv}
theorem e_callS (n : Nat) (G : Fn X.prog X.w X.K X.mg X.base CX k f fd ps (lift X.K np fs)) (hr : Room k X.A) (hgd : X.A.guards = some []) (hg : Gl X x) (hm : X.mg x = some (.ref f)) (hk : PySem.W.keepIn X.K (.ref f) = true) (hb : Binds X.K fd ps []) (hx : Passes CX X E)
    (he : PE X e (upL X.K tl)) (hes : PA X es fun _ H Q => Q vs H) (hvs : ∀ F a fu, Tm X.K F a fu vs rs) (hdb : (x == ("__debug__" : Str)) = false := by decide) (hs : starEach (e :: es) X.env = (false, eval e X.env) :: starEach es X.env := by rfl)
    (hpl : (backTo pos (starEach es X.env)).any (·.1) = false := by rfl) : PE X (.Call (.Name x p) (e :: es) [] pos) (up X.K (dCallS np n fs tl rs)) := pe_to (pe_fn G hr hgd hg hm hk hb hx (pa_cons he hes hs) hdb hs hpl) fun σ H Q q => by
  obtain ⟨c, g, tv, tr, F, a, post, s, t, k⟩ := q
  refine ⟨c, g, tv, tr, F, a, _, s, t, fun ds g1 v H1 F1 a1 t1 s1 n1 => ?_⟩
  obtain ⟨o, xs, rfl, q2, q3, q4, q5, q6, q7⟩ := n1.ex
  refine ⟨F1, o, .src :: rs, some n, _, s1.eh, .cons ⟨rfl, fun z => nomatch z⟩ (hvs F1 o _), ?_, fun m hm => ?_, t1.2.2, fun r fu' v H' F' hp ou => ?_⟩
  · have := (hvs F1 o none).len
    rw [List.length_cons, this]; exact t1.2.1
  · cases hm
    exact ⟨q2, t1.1.at q4 q5⟩
  · have s2 := s1.after2 (v := v) n1 ou
    cases r with
    | val d => exact k _ _ v H' F' a1 hp (s2.push (r := .val d) ou.rep)
    | own es =>
      obtain ⟨F'', s4⟩ := s2.still (NewL.of s1 rfl id ou.rep)
      exact k _ _ v H' F'' a1 hp s4
theorem as_nil : PA X [] fun _ H Q => Q [] H := pa_nil
theorem as_cons {e : Expr} {es : List Expr} {v : V} {vs : List V} (h : PE X e (tC v)) (hr : PA X es fun _ H Q => Q vs H) (hs : starEach (e :: es) X.env = (false, eval e X.env) :: starEach es X.env := by rfl) : PA X (e :: es) fun _ H Q => Q (v :: vs) H := pa_cons h hr hs
end
/-! ### built-ins in short -/
section
variable {X : Cx} {x : Str} {p pos : Pos} {e e2 : Expr} {tr : DA}
theorem e_len (hg : Gl X "len") (hm : X.mg "len" = none) (ha : PA X [e] (upA X.K tr)) (he : starEach [e] X.env = (false, eval e X.env) :: starEach [] X.env := by rfl) : PE X (.Call (.Name "len" p) [e] [] pos) (up X.K (dCB cLen tr)) := e_callB call_len ok_len hg hm PySem.boot_len ha (by decide) (by decide) he rfl
theorem e_abs (hg : Gl X "abs") (hm : X.mg "abs" = none) (ha : PA X [e] (upA X.K tr)) (he : starEach [e] X.env = (false, eval e X.env) :: starEach [] X.env := by rfl) : PE X (.Call (.Name "abs" p) [e] [] pos) (up X.K (dCB (cInt1 fun i => if i < 0 then -i else i) tr)) := e_callB call_abs ok_int1 hg hm (by decide +kernel) ha (by decide) (by decide) he rfl
theorem e_max (hc : X.calm = true) (hg : Gl X "max") (hm : X.mg "max" = none) (ha : PA X [e, e2] (upA X.K tr)) (he : starEach [e, e2] X.env = (false, eval e X.env) :: starEach [e2] X.env := by rfl) (hpl : (backTo pos (starEach [e2] X.env)).any (·.1) = false := by rfl) :
    PE X (.Call (.Name "max" p) [e, e2] [] pos) (up X.K (dCB (cInt2 fun i j => if j > i then j else i) tr)) := e_callB (call_max2 hc) ok_int2 hg hm (by decide +kernel) ha (by decide) (by decide) he hpl
theorem e_min (hc : X.calm = true) (hg : Gl X "min") (hm : X.mg "min" = none) (ha : PA X [e, e2] (upA X.K tr)) (he : starEach [e, e2] X.env = (false, eval e X.env) :: starEach [e2] X.env := by rfl) (hpl : (backTo pos (starEach [e2] X.env)).any (·.1) = false := by rfl) :
    PE X (.Call (.Name "min" p) [e, e2] [] pos) (up X.K (dCB (cInt2 fun i j => if j < i then j else i) tr)) := e_callB (call_min2 hc) ok_int2 hg hm (by decide +kernel) ha (by decide) (by decide) he hpl
theorem e_all (hc : X.calm = true) (hg : Gl X "all") (hm : X.mg "all" = none) (ha : PA X [e] (upA X.K tr)) (he : starEach [e] X.env = (false, eval e X.env) :: starEach [] X.env := by rfl) : PE X (.Call (.Name "all" p) [e] [] pos) (up X.K (dCB cAll tr)) := e_callB (cr_all hc) ok_all hg hm (by decide +kernel) ha (by decide) (by decide) he rfl
theorem e_tuple (hg : Gl X "tuple") (hm : X.mg "tuple" = none) (ha : PA X [e] (upA X.K tr)) (he : starEach [e] X.env = (false, eval e X.env) :: starEach [] X.env := by rfl) : PE X (.Call (.Name "tuple" p) [e] [] pos) (up X.K (dCB cTuple tr)) := e_callTy call_tuple_of ok_tuple hg hm (by decide +kernel) ha (by decide) (by decide) he rfl
theorem e_toint (hg : Gl X "int") (hm : X.mg "int" = none) (ha : PA X [e] (upA X.K tr)) (he : starEach [e] X.env = (false, eval e X.env) :: starEach [] X.env := by rfl) : PE X (.Call (.Name "int" p) [e] [] pos) (up X.K (dCB cInt tr)) := e_callTy call_int1 ok_int hg hm (by decide +kernel) ha (by decide) (by decide) he rfl
theorem e_glob {v : V} {u : Value} {d : Da} (hg : Gl X x) (hm : X.mg x = some u) (r : RelV v u) (hr : ∀ F, Rp X.K F v d) (hd : (x == ("__debug__" : Str)) = false := by decide) : PE X (.Name x pos) (up X.K (dC d)) := e_c (pe_glob hg hm r hd) hr
theorem c_ty {T : String} (hg : Gl X x) (hm : X.mg x = none) (hv : bootBuiltins x = some (.type T)) (hn : x ≠ "__name__" := by decide) (hd : (x == ("__debug__" : Str)) = false := by decide) : PE X (.Name x pos) (tC (.ty T)) := pe_bltn hg hm hv rfl hn hd
end
end Z

namespace Z
open L2 PySem PySem.Spec PyProof.Rows
open Evl (Ex ex_l ex_t ex_rd fresh_back)
abbrev oSub : BinF := fI0 fun i j => .int (i - j)
abbrev oAddI : BinF := fI0 fun i j => .int (i + j)
abbrev oMul : BinF := fI CMulX fun i j => .int (i * j)
abbrev oDiv : BinF := fI CDivW fun i j => .int (i / j)
abbrev oMod : BinF := fI (fun _ j => 0 < j) fun i j => .int (i % j)
abbrev oShl : BinF := fI CShl fun i j => .int (i * 2 ^ j.toNat)
abbrev oShr : BinF := fI (fun _ j => 0 ≤ j) fun i j => .int (i / 2 ^ j.toNat)
abbrev oPow : BinF := fI CPowX fun i j => .int (i ^ j.toNat)
abbrev oAnd : BinF := fI0 fun i j => .int (Builtin.bitAnd i j)
abbrev oLt : BinF := fI0 fun i j => .bool (decide (i < j))
abbrev oLe : BinF := fI0 fun i j => .bool (decide (i ≤ j))
abbrev oGt : BinF := fI0 fun i j => .bool (decide (j < i))
abbrev oGe : BinF := fI0 fun i j => .bool (decide (j ≤ i))
abbrev oAbs : CF := cInt1 fun i => if i < 0 then -i else i
abbrev oMax : CF := cInt2 fun i j => if j > i then j else i
abbrev oMin : CF := cInt2 fun i j => if j < i then j else i
/-! ### comparisons as tests -/
theorem test_core {K : Fg} {t : DE} {σ : L2.St} {H : Hp} {Q : Bool → Hp → Prop} (q : upT K (dTest t) σ H Q) : up K t σ H fun x H1 => ∃ k, x = .bl k ∧ Q k H1 := by
  obtain ⟨c, g, tv, tr, F, ad, post, s, t1, k⟩ := q
  refine ⟨c, g, tv, tr, F, ad, _, s, t1, fun r g1 v1 H1 F1 a1 h1 s1 => ?_⟩
  cases r with
  | val d =>
    cases d with
    | bool b => exact ⟨b, s1.top.bl rfl, k b g1 H1 F1 a1 h1 s1.pop1⟩
    | _ => exact h1.elim
  | _ => exact h1.elim
section
variable {X : Cx} {a b c : Expr} {ta tb tc : DE} {pos : Pos}
theorem t_cmp {op : CmpOp} {r : R2} {f : BinF} (ho : OpR X (compareOp op) r) (hf : BinOk X.K r f) (ha : PE X a (up X.K ta)) (hb : PE X b (up X.K tb)) (hm : behindInMarks op b = false) : PT X (.Compare a [op] [b] pos) (upT X.K (dTest (dBin f ta tb))) :=
  pt_to (pt_cmpR ho ha hb hm) fun σ H Q q => bin_core hf σ H _ (test_core q)
theorem t_lt (ha : PE X a (up X.K ta)) (hb : PE X b (up X.K tb)) : PT X (.Compare a [.Lt] [b] pos) (upT X.K (dTest (dBin oLt ta tb))) := t_cmp op_lt ok_I0b ha hb (nomark _)
theorem t_le (ha : PE X a (up X.K ta)) (hb : PE X b (up X.K tb)) : PT X (.Compare a [.LtE] [b] pos) (upT X.K (dTest (dBin oLe ta tb))) := t_cmp op_le ok_I0b ha hb (nomark _)
theorem t_gt (ha : PE X a (up X.K ta)) (hb : PE X b (up X.K tb)) : PT X (.Compare a [.Gt] [b] pos) (upT X.K (dTest (dBin oGt ta tb))) := t_cmp op_gt ok_I0b ha hb (nomark _)
theorem t_ge (ha : PE X a (up X.K ta)) (hb : PE X b (up X.K tb)) : PT X (.Compare a [.GtE] [b] pos) (upT X.K (dTest (dBin oGe ta tb))) := t_cmp op_ge ok_I0b ha hb (nomark _)
theorem t_eq (hu : X.A.units + 64 < cLine) (ha : PE X a (up X.K ta)) (hb : PE X b (up X.K tb)) : PT X (.Compare a [.Eq] [b] pos) (upT X.K (dTest (dBin fEq ta tb))) :=
  t_cmp (op_eqD hu) (fun F H x y d e post Q hx r1 r2 hf k => ⟨d, e, r1.dp hx d x (shaped_lay hf.1), r2.dp hx e y (shaped_lay hf.2.1), hf.1, hf.2.1, k _ _ H F hf.2.2 (Gr.refl hx) (.bl _)⟩) ha hb (nomark _)
theorem t_ne (hu : X.A.units + 64 < cLine) (ha : PE X a (up X.K ta)) (hb : PE X b (up X.K tb)) : PT X (.Compare a [.NotEq] [b] pos) (upT X.K (dTest (dBin fNe ta tb))) :=
  t_cmp (op_neD hu) (fun F H x y d e post Q hx r1 r2 hf k => ⟨d, e, r1.dp hx d x (shaped_lay hf.1), r2.dp hx e y (shaped_lay hf.2.1), hf.1, hf.2.1, k _ _ H F hf.2.2 (Gr.refl hx) (.bl _)⟩) ha hb (nomark _)
theorem t_in (ha : PE X a (up X.K ta)) (hb : PE X b (up X.K tb)) (hm : behindInMarks .In b = false := by rfl) : PT X (.Compare a [.In] [b] pos) (upT X.K (dTest (dBin (fIn false) ta tb))) := t_cmp op_in_seq ok_in ha hb hm
theorem t_notin (ha : PE X a (up X.K ta)) (hb : PE X b (up X.K tb)) (hm : behindInMarks .NotIn b = false := by rfl) : PT X (.Compare a [.NotIn] [b] pos) (upT X.K (dTest (dBin (fIn true) ta tb))) := t_cmp op_notIn_seq ok_in ha hb hm
theorem isn_core {neg : Bool} {σ : L2.St} {H : Hp} {Q : VK} (q : up X.K (dIsN neg ta) σ H Q) : up X.K ta σ H fun x H1 => Q (.bl (if neg then !decide (x = .non) else decide (x = .non))) H1 := by
  obtain ⟨c, g, tv, tr, F, ad, post, s, t1, k⟩ := q
  refine ⟨c, g, tv, tr, F, ad, _, s, t1, fun r g1 v1 H1 F1 a1 h1 s1 => ?_⟩
  cases r with
  | val d =>
    have hr : Rp X.K F1 v1 d := s1.top
    rw [non_v hr]
    exact k _ g1 _ H1 F1 a1 h1 (s1.pop1.push (r := .val (.bool _)) (Rp.bl _))
  | _ => exact h1.elim
theorem t_isN {j : Nat} {pos' : Pos} (ha : PE X a (up X.K ta)) : PT X (.Compare a [.Is] [.Constant .none j pos'] pos) (upT X.K (dTest (dIsN false ta))) := pt_to (pt_cmpR op_isN ha pe_non (nomark _)) fun σ H Q q => by
  obtain ⟨c, g, tv, tr, F, ad, post, s, t1, k⟩ := isn_core (test_core q)
  exact ⟨c, g, tv, tr, F, ad, post, s, t1, fun r g1 v1 H1 F1 a1 h1 s1 => ⟨rfl, k r g1 v1 H1 F1 a1 h1 s1⟩⟩
theorem t_notN {j : Nat} {pos' : Pos} (ha : PE X a (up X.K ta)) : PT X (.Compare a [.IsNot] [.Constant .none j pos'] pos) (upT X.K (dTest (dIsN true ta))) := pt_to (pt_cmpR op_notN ha pe_non (nomark _)) fun σ H Q q => by
  obtain ⟨c, g, tv, tr, F, ad, post, s, t1, k⟩ := isn_core (test_core q)
  exact ⟨c, g, tv, tr, F, ad, post, s, t1, fun r g1 v1 H1 F1 a1 h1 s1 => ⟨rfl, k r g1 v1 H1 F1 a1 h1 s1⟩⟩
theorem t_lele (ha : PE X a (up X.K ta)) (hb : PE X b (up X.K tb)) (hc : PE X c (up X.K tc)) (hm : lastMarks [.LtE, .LtE] [b, c] = false := by with_unfolding_all rfl) : PT X (.Compare a [.LtE, .LtE] [b, c] pos) (upT X.K (dTest (dChain oLe oLe ta tb tc))) := pt_to (pt_chain op_le op_le ha hb hc hm) fun _ _ _ q => chain_core ok_I0b ok_I0b (test_core q)
theorem t_lelt (ha : PE X a (up X.K ta)) (hb : PE X b (up X.K tb)) (hc : PE X c (up X.K tc)) (hm : lastMarks [.LtE, .Lt] [b, c] = false := by with_unfolding_all rfl) : PT X (.Compare a [.LtE, .Lt] [b, c] pos) (upT X.K (dTest (dChain oLe oLt ta tb tc))) := pt_to (pt_chain op_le op_lt ha hb hc hm) fun _ _ _ q => chain_core ok_I0b ok_I0b (test_core q)
theorem e_ltlt (ha : PE X a (up X.K ta)) (hb : PE X b (up X.K tb)) (hc : PE X c (up X.K tc)) (hm : lastMarks [.Lt, .Lt] [b, c] = false := by with_unfolding_all rfl) : PE X (.Compare a [.Lt, .Lt] [b, c] pos) (up X.K (dChain oLt oLt ta tb tc)) := e_chain op_lt op_lt ok_I0b ok_I0b ha hb hc hm
theorem t_ltlt (ha : PE X a (up X.K ta)) (hb : PE X b (up X.K tb)) (hc : PE X c (up X.K tc)) (hm : lastMarks [.Lt, .Lt] [b, c] = false := by with_unfolding_all rfl) : PT X (.Compare a [.Lt, .Lt] [b, c] pos) (upT X.K (dTest (dChain oLt oLt ta tb tc))) := pt_to (pt_chain op_lt op_lt ha hb hc hm) fun _ _ _ q => chain_core ok_I0b ok_I0b (test_core q)
theorem e_ltle (ha : PE X a (up X.K ta)) (hb : PE X b (up X.K tb)) (hc : PE X c (up X.K tc)) (hm : lastMarks [.Lt, .LtE] [b, c] = false := by with_unfolding_all rfl) : PE X (.Compare a [.Lt, .LtE] [b, c] pos) (up X.K (dChain oLt oLe ta tb tc)) := e_chain op_lt op_le ok_I0b ok_I0b ha hb hc hm
theorem t_ltle (ha : PE X a (up X.K ta)) (hb : PE X b (up X.K tb)) (hc : PE X c (up X.K tc)) (hm : lastMarks [.Lt, .LtE] [b, c] = false := by with_unfolding_all rfl) : PT X (.Compare a [.Lt, .LtE] [b, c] pos) (upT X.K (dTest (dChain oLt oLe ta tb tc))) := pt_to (pt_chain op_lt op_le ha hb hc hm) fun _ _ _ q => chain_core ok_I0b ok_I0b (test_core q)
end
/-- a pair of ints -/
abbrev num (n d : Int) : Da := .tuple [.int n, .int d]
theorem atI_0 {α : Type} {x0 : α} {xs : List α} : atI (x0 :: xs) 0 = some x0 := by
  unfold atI ixN
  rw [if_pos (by decide), if_pos (by simp only [List.length_cons]; omega)]
  rfl
theorem atI_1 {α : Type} {x0 x1 : α} {xs : List α} : atI (x0 :: x1 :: xs) 1 = some x1 := by
  unfold atI ixN
  rw [if_pos (by decide), if_pos (by simp only [List.length_cons]; omega)]
  rfl
theorem atI_2 {α : Type} {x0 x1 x2 : α} {xs : List α} : atI (x0 :: x1 :: x2 :: xs) 2 = some x2 := by
  unfold atI ixN
  rw [if_pos (by decide), if_pos (by simp only [List.length_cons]; omega)]
  rfl
theorem atI_3 {α : Type} {x0 x1 x2 x3 : α} {xs : List α} : atI (x0 :: x1 :: x2 :: x3 :: xs) 3 = some x3 := by
  unfold atI ixN
  rw [if_pos (by decide), if_pos (by simp only [List.length_cons]; omega)]
  rfl
theorem atI_4 {α : Type} {x0 x1 x2 x3 x4 : α} {xs : List α} : atI (x0 :: x1 :: x2 :: x3 :: x4 :: xs) 4 = some x4 := by
  unfold atI ixN
  rw [if_pos (by decide), if_pos (by simp only [List.length_cons]; omega)]
  rfl
theorem atI_5 {α : Type} {x0 x1 x2 x3 x4 x5 : α} {xs : List α} : atI (x0 :: x1 :: x2 :: x3 :: x4 :: x5 :: xs) 5 = some x5 := by
  unfold atI ixN
  rw [if_pos (by decide), if_pos (by simp only [List.length_cons]; omega)]
  rfl
/-! ### equality of plain data -/
theorem eqv_ii (i j : Int) : (PyData.int i).eqv (.int j) = decide (i = j) := by
  simp only [PyData.eqv]
  rw [Bool.eq_iff_iff]
  simp
theorem eqv_ss (x y : Str) : (PyData.str x).eqv (.str y) = decide (x = y) := by
  simp only [PyData.eqv]
  rw [Bool.eq_iff_iff]
  simp
theorem eqv_num (a b c d : Int) : (PyData.tuple [.int a, .int b]).eqv (.tuple [.int c, .int d]) = (decide (a = c) && decide (b = d)) := by
  simp only [PyData.eqv, PyData.eqvAll]
  rw [Bool.eq_iff_iff]
  simp
theorem shaped_int (i : Int) : SeqAt.shaped (.int i) = true := rfl
theorem shaped_num (i j : Int) : SeqAt.shaped (.tuple [.int i, .int j]) = true := rfl
theorem shaped_none : SeqAt.shaped .none = true := rfl
theorem flat_str (x : Str) : flatD (.str x) = true := rfl
theorem flat_int (x : Int) : flatD (.int x) = true := rfl
theorem flat_none : flatD .none = true := rfl
/-! ### sizes -/
/-- less than n bits -/
structure Bn (n : Nat) (i : Int) : Prop where
  lt : i.natAbs < 2 ^ n
theorem bits_lt {i : Int} {n : Nat} (h : Bn n i) : Builtin.Int.intBits i ≤ n := by
  unfold Builtin.Int.intBits
  split
  · exact Nat.zero_le _
  · rename_i h0
    have h1 : i ≠ 0 := fun z => h0 (by rw [z]; rfl)
    have : i.natAbs.log2 < n := (Nat.log2_lt (by omega)).mpr h.lt
    omega
theorem Bn.mono {n m : Nat} {i : Int} (h : Bn n i) (hm : n ≤ m) : Bn m i := ⟨Nat.lt_of_lt_of_le h.lt (Nat.pow_le_pow_right (by decide) hm)⟩
theorem Bn.le {n : Nat} {i j : Int} (h : Bn n j) (h0 : 0 ≤ i) (h1 : i ≤ j) : Bn n i := ⟨by have := h.lt; omega⟩
theorem Bn.abs {n : Nat} {i j : Int} (h : Bn n j) (h1 : i.natAbs ≤ j.natAbs) : Bn n i := ⟨by have := h.lt; omega⟩
theorem Bn.nat {n : Nat} {i : Nat} (h : i < 2 ^ n) : Bn n (i : Int) := ⟨h⟩
theorem Bn.mul {a b : Nat} {i j : Int} (ha : Bn a i) (hb : Bn b j) : Bn (a + b) (i * j) := ⟨by
  rw [Int.natAbs_mul, Nat.pow_add]
  exact Nat.mul_lt_mul'' ha.lt hb.lt⟩
theorem Bn.add {a : Nat} {i j : Int} (ha : Bn a i) (hb : Bn a j) : Bn (a + 1) (i + j) := ⟨by
  have h1 := ha.lt
  have h2 := hb.lt
  have h3 := Int.natAbs_add_le i j
  rw [Nat.pow_succ]
  omega⟩
theorem Bn.neg {a : Nat} {i : Int} (ha : Bn a i) : Bn a (-i) := ⟨by rw [Int.natAbs_neg]; exact ha.lt⟩
theorem Bn.sub {a : Nat} {i j : Int} (ha : Bn a i) (hb : Bn a j) : Bn (a + 1) (i - j) := by
  rw [Int.sub_eq_add_neg]
  exact ha.add hb.neg
theorem Bn.pow2 {n m : Nat} (h : n < m) : Bn m ((2 : Int) ^ n) := ⟨by
  rw [Int.natAbs_pow]
  exact Nat.pow_lt_pow_right (by decide) h⟩
theorem Bn.small {m : Nat} {i : Int} (h1 : -18446744073709551616 < i) (h2 : i < 18446744073709551616) (hm : 64 ≤ m) : Bn m i := by
  have e : (2 : Nat) ^ 64 = 18446744073709551616 := by decide
  exact Bn.mono (n := 64) ⟨by rw [e]; omega⟩ hm
theorem Bn.divL {n : Nat} {i j : Int} (h : Bn n i) (h0 : 0 ≤ i) (hj : 0 < j) : Bn n (i / j) := h.le (Int.ediv_nonneg h0 (Int.le_of_lt hj)) (Int.ediv_le_self _ h0)
theorem Bn.modR {n : Nat} {i j : Int} (h : Bn n j) (hj : 0 < j) : Bn n (i % j) := h.le (Int.emod_nonneg _ (by omega)) (Int.le_of_lt (Int.emod_lt_of_pos _ hj))
theorem mulX {i j : Int} (a b : Nat) (ha : Bn a i) (hb : Bn b j) (h : a + b ≤ 134217728) : CMulX i j := by
  have h1 := bits_lt ha
  have h2 := bits_lt hb
  unfold CMulX
  omega
theorem shlX {i j : Int} (a : Nat) (ha : Bn a i) (h0 : 0 ≤ j) (h : (a : Int) + j ≤ 134217728) : CShl i j := by
  have h1 := bits_lt ha
  refine ⟨h0, ?_⟩
  have e : (2 : Int) ^ 27 = 134217728 := by decide
  rw [e]
  omega
theorem divX {i j : Int} (b : Nat) (h0 : 0 < j) (hb : Bn b j) (h9 : b ≤ 9000) : CDivW i j := wide_div h0 (Bn.mono hb h9).lt (by decide) (Nat.le_refl _)
theorem pow2_pos (n : Nat) : (0 : Int) < 2 ^ n := Int.pow_pos (by decide)
theorem shlB {i : Int} {a n : Nat} (ha : Bn a i) : Bn (a + n + 1) (i * 2 ^ n) := by
  have := ha.mul (Bn.pow2 (n := n) (m := n + 1) (by omega))
  exact this.mono (by omega)
end Z

namespace Z
open L2 PySem PySem.Spec PyProof.Rows
/-! ### loops by an invariant -/
theorem forD_inv {t : DG} {tb : DS} {d : DEnds} (I : Gs → Prop) : ∀ {ds : List Da} {g : Gs}, (∀ x ∈ ds, ∀ g, I g → ∀ N : Gs → Prop, (∀ g', I g' → N g') → t (.val x) g fun g1 => tb { d with nx := N, ct := N, bk := d.nx } g1) → (∀ g, I g → d.nx g) → I g → forD t tb ds d g
  | [], g, _, hd, h => hd g h
  | x :: xs, g, hs, hd, h => hs x List.mem_cons_self g h (forD t tb xs d) fun g' h' => forD_inv I (fun y hy => hs y (List.mem_cons_of_mem _ hy)) hd h'
/-- by the number of turns gone -/
theorem forD_ix {t : DG} {tb : DS} {d : DEnds} (I : Nat → Gs → Prop) : ∀ {ds : List Da} {g : Gs} {k : Nat}, (∀ (i : Nat) x, ds[i]? = some x → ∀ g, I (k + i) g → ∀ N : Gs → Prop, (∀ g', I (k + i + 1) g' → N g') → t (.val x) g fun g1 => tb { d with nx := N, ct := N, bk := d.nx } g1) →
    (∀ g, I (k + ds.length) g → d.nx g) → I k g → forD t tb ds d g
  | [], g, k, _, hd, h => hd g h
  | x :: xs, g, k, hs, hd, h => hs 0 x rfl g h (forD t tb xs d) fun g' h' => forD_ix I (k := k + 1) (fun i y hy g2 h2 N hN => hs (i + 1) y (by simpa using hy) g2 (by rw [show k + (i + 1) = k + 1 + i by omega]; exact h2) N (fun g3 h3 => hN g3 (by rw [show k + 1 + i + 1 = k + (i + 1) + 1 by omega]; exact h3)))
      (fun g2 h2 => hd g2 (by rw [List.length_cons, show k + (xs.length + 1) = k + 1 + xs.length by omega]; exact h2)) h'
theorem fuN_self (fu : Option Nat) : fuN fu fu = fu := by cases fu <;> rfl
/-- a comprehension whose element is a plain function of the item -/
theorem lc_map {sl : List (Option Sv)} {i : Nat} {te : DE} (f : Da → Da) {Q : List Da → Option Nat → Prop} {fu : Option Nat} : ∀ {ds acc : List Da},
    (∀ x ∈ ds, ∀ R : Rv → Gs → Prop, (∀ g3 : Gs, g3.fu = fu → R (.val (f x)) g3) → te (Gs.set ⟨sl, fu, false⟩ i (.val x)) R) → acc.length + ds.length ≤ 1000000 → Q (acc ++ ds.map f) fu → lcD sl (dN i) dYes te ds acc fu Q
  | [], acc, _, _, h => by rw [List.map_nil, List.append_nil] at h; exact h
  | x :: xs, acc, hs, hl, h => by
    refine ⟨fun _ => hs x List.mem_cons_self _ fun g3 e => ⟨?_, ?_⟩, fun z => nomatch z⟩
    · rw [List.length_cons] at hl; omega
    · rw [e, fuN_self]
      refine lc_map f (fun y hy => hs y (List.mem_cons_of_mem _ hy)) ?_ ?_
      · rw [List.length_cons] at hl
        rw [List.length_append, List.length_cons, List.length_nil]
        omega
      · rw [List.append_assoc]
        exact h
/-! ### gcd -/
theorem gcd_step {a b : Int} (ha : 0 ≤ a) (hb : 0 < b) : Int.gcd b (a % b) = Int.gcd a b := by
  obtain ⟨n, rfl⟩ := Int.eq_ofNat_of_zero_le ha
  obtain ⟨m, rfl⟩ := Int.eq_ofNat_of_zero_le (Int.le_of_lt hb)
  rw [← Int.natCast_emod, Int.gcd_natCast_natCast, Int.gcd_natCast_natCast, Nat.gcd_comm n m, Nat.gcd_rec m n, Nat.gcd_comm]
theorem gcd_pos {a b : Int} (hb : 0 < b) : 0 < (Int.gcd a b : Int) := by
  have := Int.gcd_pos_of_ne_zero_right a (show b ≠ 0 by omega)
  omega
theorem gcd_le {a b : Int} (hb : 0 < b) : (Int.gcd a b : Int) ≤ b := by
  have h : (Int.gcd a b : Int) ∣ b := Int.gcd_dvd_right a b
  exact Int.le_of_dvd hb h
def low (n d : Int) : Int × Int := (n / Int.gcd n d, d / Int.gcd n d)
def lowD (n d : Int) : Da := num (low n d).1 (low n d).2
/-! ### program's arithmetic, as plain functions -/
def bl (i : Int) : Int := (Builtin.Int.intBits i : Nat)
/-- times 2 ** f, as two ints -/
def scI (n d f : Int) : Int × Int := (n * 2 ^ f.toNat, d * 2 ^ (-f).toNat)
def powI (k e : Int) : Int × Int := low (scI k 1 e).1 (scI k 1 e).2
def cellI (n d w : Int) : Int × Int :=
  if 2 ^ w.toNat ≤ (scI n d (0 - (bl n - bl d - w))).1 / (scI n d (0 - (bl n - bl d - w))).2 then ((scI n d (0 - (bl n - bl d - w + 1))).1 / (scI n d (0 - (bl n - bl d - w + 1))).2, bl n - bl d - w + 1)
  else ((scI n d (0 - (bl n - bl d - w))).1 / (scI n d (0 - (bl n - bl d - w))).2, bl n - bl d - w)
def posI (n d w : Int) : Int × Int :=
  low ((scI n d (0 - (cellI n d w).2)).1 - (cellI n d w).1 * (scI n d (0 - (cellI n d w).2)).2) (scI n d (0 - (cellI n d w).2)).2
/-- the six rules -/
inductive Ru where | dn | hd | he | hu | od | up
  deriving DecidableEq
def Ru.s : Ru → Str
  | .dn => "down"
  | .hd => "half_down"
  | .he => "half_even"
  | .hu => "half_up"
  | .od => "odd"
  | .up => "up"
theorem shaped_ru (r : Ru) : SeqAt.shaped (.str r.s) = true := by cases r <;> decide +kernel
def goesUp (k n d : Int) : Ru → Bool
  | .dn => false
  | .up => true
  | .od => decide (k % 2 = 0)
  | .hd => decide (d < 2 * n)
  | .hu => decide (d ≤ 2 * n)
  | .he => if 2 * n = d then decide (k % 2 = 1) else decide (d < 2 * n)
def endsI (n d w : Int) : (Int × Int) × (Int × Int) :=
  if (posI n d w).1 = 0 then ((n, d), (n, d)) else (powI (cellI n d w).1 (cellI n d w).2, powI ((cellI n d w).1 + 1) (cellI n d w).2)
def roundI (n d w : Int) (r : Ru) : Int × Int := if goesUp (cellI n d w).1 (posI n d w).1 (posI n d w).2 r then (endsI n d w).2 else (endsI n d w).1
abbrev nm (p : Int × Int) : Da := num p.1 p.2
end Z

namespace Z
open L2 PySem PySem.Spec PyProof.Rows
example (a b c : Int) : (a + b) * (a + b) * c = a * a * c + 2 * a * b * c + b * b * c := by grind
/-! ### cells -/
theorem bl_pos {n : Int} (h : 0 < n) : ∃ m : Nat, bl n = (m : Int) + 1 ∧ (2 : Int) ^ m ≤ n ∧ n < 2 ^ (m + 1) := by
  obtain ⟨k, rfl⟩ := Int.eq_ofNat_of_zero_le (Int.le_of_lt h)
  have hk : k ≠ 0 := by omega
  refine ⟨k.log2, ?_, ?_, ?_⟩
  · unfold bl Builtin.Int.intBits
    rw [if_neg (by simp; omega), Int.natAbs_natCast]
    omega
  · have := Nat.log2_self_le hk
    have e : ((2 ^ k.log2 : Nat) : Int) = (2 : Int) ^ k.log2 := by norm_cast
    omega
  · have := Nat.lt_log2_self (n := k)
    have e : ((2 ^ (k.log2 + 1) : Nat) : Int) = (2 : Int) ^ (k.log2 + 1) := by norm_cast
    omega
/-- the first guess: between 2 ^ (w - 1) and 2 ^ (w + 1) -/
theorem guess {n d w e : Int} (hn : 0 < n) (hd : 0 < d) (hw : 1 ≤ w) (he : e = bl n - bl d - w) :
    (scI n d (0 - e)).2 * 2 ^ (w - 1).toNat ≤ (scI n d (0 - e)).1 ∧ (scI n d (0 - e)).1 < (scI n d (0 - e)).2 * 2 ^ (w + 1).toNat := by
  obtain ⟨p, ep, p1, p2⟩ := bl_pos hn
  obtain ⟨q, eq, q1, q2⟩ := bl_pos hd
  obtain ⟨v, ev⟩ : ∃ v : Nat, w = (v : Int) + 1 := ⟨(w - 1).toNat, by omega⟩
  have e1 : (w - 1).toNat = v := by omega
  have e2 : (w + 1).toNat = v + 2 := by omega
  rw [e1, e2]
  unfold scI
  generalize hA : (0 - e).toNat = A
  generalize hB : (-(0 - e)).toNat = B
  have hAB : q + 1 + B + v = p + A := by omega
  show d * 2 ^ B * 2 ^ v ≤ n * 2 ^ A ∧ n * 2 ^ A < d * 2 ^ B * 2 ^ (v + 2)
  have h2A := pow2_pos A
  have h2B := pow2_pos B
  have h2v := pow2_pos v
  constructor
  · have s1 : d * 2 ^ B * 2 ^ v ≤ 2 ^ (q + 1) * 2 ^ B * 2 ^ v := Int.mul_le_mul_of_nonneg_right (Int.mul_le_mul_of_nonneg_right (Int.le_of_lt q2) (Int.le_of_lt h2B)) (Int.le_of_lt h2v)
    have s2 : (2 : Int) ^ (q + 1) * 2 ^ B * 2 ^ v = 2 ^ p * 2 ^ A := by rw [← Int.pow_add, ← Int.pow_add, ← Int.pow_add, hAB]
    have s3 : (2 : Int) ^ p * 2 ^ A ≤ n * 2 ^ A := Int.mul_le_mul_of_nonneg_right p1 (Int.le_of_lt h2A)
    omega
  · have s1 : n * 2 ^ A < 2 ^ (p + 1) * 2 ^ A := Int.mul_lt_mul_of_pos_right p2 h2A
    have s2 : (2 : Int) ^ (p + 1) * 2 ^ A = 2 ^ q * 2 ^ B * 2 ^ (v + 2) := by
      rw [← Int.pow_add, ← Int.pow_add, ← Int.pow_add]
      congr 1
      omega
    have s3 : (2 : Int) ^ q * 2 ^ B * 2 ^ (v + 2) ≤ d * 2 ^ B * 2 ^ (v + 2) := Int.mul_le_mul_of_nonneg_right (Int.mul_le_mul_of_nonneg_right q1 (Int.le_of_lt h2B)) (Int.le_of_lt (pow2_pos _))
    omega
theorem scI_pos {n d f : Int} (hn : 0 < n) (hd : 0 < d) : 0 < (scI n d f).1 ∧ 0 < (scI n d f).2 := ⟨Int.mul_pos hn (pow2_pos _), Int.mul_pos hd (pow2_pos _)⟩
/-- one exponent more: half of it -/
theorem scI_half (n d e : Int) : (scI n d (0 - (e + 1))).1 * (scI n d (0 - e)).2 * 2 = (scI n d (0 - e)).1 * (scI n d (0 - (e + 1))).2 := by
  unfold scI
  generalize hA : (0 - (e + 1)).toNat = A
  generalize hB : (-(0 - (e + 1))).toNat = B
  generalize hA' : (0 - e).toNat = A'
  generalize hB' : (-(0 - e)).toNat = B'
  have h : A + B' + 1 = A' + B := by omega
  show n * 2 ^ A * (d * 2 ^ B') * 2 = n * 2 ^ A' * (d * 2 ^ B)
  have s : (2 : Int) ^ A * 2 ^ B' * 2 = 2 ^ A' * 2 ^ B := by
    rw [← Int.pow_add, ← Int.pow_add, ← h, Int.pow_succ]
  calc n * 2 ^ A * (d * 2 ^ B') * 2 = n * d * (2 ^ A * 2 ^ B' * 2) := by grind
    _ = n * d * (2 ^ A' * 2 ^ B) := by rw [s]
    _ = n * 2 ^ A' * (d * 2 ^ B) := by grind
/-- the cell: its k has just w bits, and is the whole part -/
theorem cellI_spec {n d w : Int} (hn : 0 < n) (hd : 0 < d) (hw : 1 ≤ w) :
    (cellI n d w).1 = (scI n d (0 - (cellI n d w).2)).1 / (scI n d (0 - (cellI n d w).2)).2 ∧ 2 ^ (w - 1).toNat ≤ (cellI n d w).1 ∧ (cellI n d w).1 < 2 ^ w.toNat ∧ bl n - bl d - w ≤ (cellI n d w).2 ∧ (cellI n d w).2 ≤ bl n - bl d - w + 1 := by
  obtain ⟨g1, g2⟩ := guess hn hd hw rfl
  have ew : w.toNat = (w - 1).toNat + 1 := by omega
  have ew2 : (w + 1).toNat = w.toNat + 1 := by omega
  generalize he : bl n - bl d - w = e at g1 g2
  obtain ⟨a0, b0⟩ := scI_pos (f := 0 - e) hn hd
  obtain ⟨a1, b1⟩ := scI_pos (f := 0 - (e + 1)) hn hd
  by_cases hc : 2 ^ w.toNat ≤ (scI n d (0 - e)).1 / (scI n d (0 - e)).2
  · have ec : cellI n d w = ((scI n d (0 - (e + 1))).1 / (scI n d (0 - (e + 1))).2, e + 1) := by
      unfold cellI
      rw [he, if_pos hc]
    rw [ec]
    have hh := scI_half n d e
    have hc' := (Int.le_ediv_iff_mul_le b0).mp hc
    refine ⟨rfl, (Int.le_ediv_iff_mul_le b1).mpr ?_, (Int.ediv_lt_iff_lt_mul b1).mpr ?_, by omega, by omega⟩
    · apply Int.le_of_mul_le_mul_right (a := (scI n d (0 - e)).2 * 2) _ (by omega)
      rw [show (scI n d (0 - (e + 1))).1 * ((scI n d (0 - e)).2 * 2) = (scI n d (0 - e)).1 * (scI n d (0 - (e + 1))).2 by rw [← hh]; grind]
      have := Int.mul_le_mul_of_nonneg_right hc' (Int.le_of_lt b1)
      rw [ew, Int.pow_succ] at this
      grind
    · apply Int.lt_of_mul_lt_mul_right (a := (scI n d (0 - e)).2 * 2) _ (by omega)
      rw [show (scI n d (0 - (e + 1))).1 * ((scI n d (0 - e)).2 * 2) = (scI n d (0 - e)).1 * (scI n d (0 - (e + 1))).2 by rw [← hh]; grind]
      have := Int.mul_lt_mul_of_pos_right g2 b1
      rw [ew2, Int.pow_succ] at this
      grind
  · have ec : cellI n d w = ((scI n d (0 - e)).1 / (scI n d (0 - e)).2, e) := by
      unfold cellI
      rw [he, if_neg hc]
    rw [ec]
    exact ⟨rfl, (Int.le_ediv_iff_mul_le b0).mpr (by rw [Int.mul_comm]; exact g1), by omega, by omega, by omega⟩
end Z

namespace Z
open L2 PySem PySem.Spec PyProof.Rows
open Evl (Ex ex_l ex_t ex_rd fresh_back)
/-! ### repr -/
mutual
/-- at most so long is its text -/
def szD : Da → Nat
  | .none => 4
  | .bool _ => 5
  | .int _ => 1921
  | .str x => 10 * x.length + 2
  | .list xs => szAll xs + 3
  | .tuple xs => szAll xs + 3
  | .dict _ => 0
def szAll : List Da → Nat
  | [] => 0
  | x :: xs => szD x + 2 + szAll xs
end
theorem strOk_small {x : Str} (h : PyData.strOk x = true) : ∀ c ∈ x.cps.toList, c < 16 ^ 8 := fun c hc => by
  unfold PyData.strOk at h
  rw [Array.all_eq_true_iff_forall_mem] at h
  have h1 := h c (by simpa using hc)
  have h2 : c < 0x110000 := of_decide_eq_true h1
  exact Nat.lt_trans h2 (by decide)
mutual
theorem szD_ok : ∀ d : Da, d.canLay0 = true → d.showable = true → d.shown.length ≤ szD d
  | .none, _, _ => by decide +kernel
  | .bool true, _, _ => by decide +kernel
  | .bool false, _, _ => by decide +kernel
  | .int i, _, h => int_text_len_1921 (of_decide_eq_true (show decide (i.natAbs.log2 < 1920) = true from h))
  | .str x, h, _ => StrLaws.reprText_len x (strOk_small h)
  | .list xs, h, h' => by
    have h1 := szAll_ok xs (by simpa [PyData.canLay0] using h) (by simpa [PyData.showable] using h')
    have h2 := listText_len_le (PyData.shownAll xs)
    show (listText (PyData.shownAll xs)).length ≤ szAll xs + 3
    omega
  | .tuple xs, h, h' => by
    have h1 := szAll_ok xs (by simpa [PyData.canLay0] using h) (by simpa [PyData.showable] using h')
    have h2 := tupleText_len_le (PyData.shownAll xs)
    show (tupleText (PyData.shownAll xs)).length ≤ szAll xs + 3
    omega
  | .dict _, h, _ => by simp [PyData.canLay0] at h
theorem szAll_ok : ∀ xs : List Da, PyData.canLayAll0 xs = true → PyData.showableAll xs = true → ((PyData.shownAll xs).map (·.length)).sum + 2 * (PyData.shownAll xs).length ≤ szAll xs
  | [], _, _ => by simp [PyData.shownAll, szAll]
  | x :: xs, h, h' => by
    have q : x.canLay0 = true ∧ PyData.canLayAll0 xs = true := by simpa [PyData.canLayAll0] using h
    have q' : x.showable = true ∧ PyData.showableAll xs = true := by simpa [PyData.showableAll] using h'
    have h1 := szD_ok x q.1 q'.1
    have h2 := szAll_ok xs q.2 q'.2
    simp only [PyData.shownAll, szAll, List.map_cons, List.sum_cons, List.length_cons]
    omega
end
/-- may be shown -/
def Sh (d : Da) : Prop := d.canLay0 = true ∧ d.showable = true ∧ d.depth ≤ 60 ∧ szD d ≤ 16000000
def cRepr : CF := fun rs post => match rs with
  | [.val d] => Sh d ∧ post (.str d.shown)
  | _ => False
theorem Sh.len {d : Da} (h : Sh d) : d.shown.length ≤ sizeLine := Nat.le_trans (szD_ok d h.1 h.2.1) (Nat.le_trans h.2.2.2 (by decide))
section
variable {X : Cx}
theorem call_reprD (hu : X.A.units + 64 < cLine) (hg : X.A.guards = some []) : CallR X (.builtin "repr") (fun xs H Q => ∃ x d, xs = [x] ∧ Dp X.K H x d ∧ Sh d ∧ Q (.str d.shown) H) := by
  intro pins s σ H xs us Q I r h
  obtain ⟨x, d, rfl, hd, hs, q⟩ := h
  obtain ⟨u, rfl, ru⟩ := r.one
  obtain ⟨as, rd⟩ := Dp.reads I d x u hd ru
  have hz := hs.len
  cases hd with
  | non => cases ru; exact P.repr_of_none ⟨.str _, H, I.tok _, ⟨_, rfl⟩, q⟩
  | bl b => cases ru; exact P.repr_of_bool ⟨.str _, H, I.tok _, ⟨_, rfl⟩, q⟩
  | int i =>
    obtain ⟨t, rfl⟩ := ru
    exact P.repr_of_int (of_decide_eq_true (show decide (i.natAbs.log2 < 1920) = true from hs.2.1)) ⟨.str _, H, I.tok _, ⟨_, rfl⟩, q⟩
  | str z =>
    obtain ⟨t, rfl⟩ := ru
    exact P.repr_of_str ⟨.str _, H, I.tok _, ⟨_, rfl⟩, q⟩ hz
  | lst sq ha =>
    cases ru
    refine repr_of_reads' rd hs.2.1 (fun z => ?_) hg (by have := hs.2.2.1; omega) (fun _ _ e => e) (fun h' u tk hk => ⟨.str _, H, I.kept hk, ⟨_, rfl⟩, q⟩) hz
    rw [PyData.hasDict_of_canLay _ hs.1] at z; cases z
  | tup sq ha =>
    cases ru
    refine repr_of_reads' rd hs.2.1 (fun z => ?_) hg (by have := hs.2.2.1; omega) (fun _ _ e => e) (fun h' u tk hk => ⟨.str _, H, I.kept hk, ⟨_, rfl⟩, q⟩) hz
    rw [PyData.hasDict_of_canLay _ hs.1] at z; cases z
theorem ok_repr {K : Fg} : CallOk K (fun xs H Q => ∃ x d, xs = [x] ∧ Dp K H x d ∧ Sh d ∧ Q (.str d.shown) H) cRepr := fun F H a fu vs rs post Q e t hf k => by
  unfold cRepr at hf
  split at hf
  · rename_i d
    obtain ⟨v, rfl, r⟩ := t.v1
    exact ⟨v, d, rfl, r.dp e d v hf.1.1, hf.1, k _ _ H F hf.2 (Gr.refl e) (.str _)⟩
  · exact hf.elim
variable {p pos : Pos} {e : Expr} {tr : DA} {k : Nat}
theorem e_repr (hr : Room k X.A) (hgd : X.A.guards = some []) (hg : Gl X "repr") (hm : X.mg "repr" = none) (ha : PA X [e] (upA X.K tr)) (he : starEach [e] X.env = (false, eval e X.env) :: starEach [] X.env := by rfl) : PE X (.Call (.Name "repr" p) [e] [] pos) (up X.K (dCB cRepr tr)) :=
  e_callB (call_reprD hr.units hgd) ok_repr hg hm (by decide +kernel) ha (by decide) (by decide) he rfl
end
/-! ### calls by keywords alone -/
def pick {α : Type} (perm : List Nat) (ws : List α) : List α := perm.filterMap fun i => ws[i]?
theorem Vals.pick {zs : List V} {ws : List Value} (h : Vals zs ws) : ∀ perm : List Nat, Vals (pick perm zs) (pick perm ws)
  | [] => .nil
  | i :: perm => by
    have ih := Vals.pick h perm
    unfold Z.pick at ih ⊢
    rw [List.filterMap_cons, List.filterMap_cons]
    cases q : zs[i]? with
    | none =>
      rw [Vals.none_of h q]
      exact ih
    | some x =>
      obtain ⟨u, h1, h2⟩ := Vals.get h q
      rw [h1]
      exact .cons h2 ih
theorem Tm.pick {K : Fg} {F : Hp} {a : Addr} {fu : Option Nat} {vs : List V} {rs : List Rv} (h : Tm K F a fu vs rs) : ∀ perm : List Nat, Tm K F a fu (pick perm vs) (pick perm rs)
  | [] => .nil
  | i :: perm => by
    have ih := Tm.pick h perm
    unfold Z.pick at ih ⊢
    rw [List.filterMap_cons, List.filterMap_cons]
    cases q : rs[i]? with
    | none =>
      have : vs[i]? = none := by
        have hl := h.len
        rw [List.getElem?_eq_none_iff] at q ⊢
        omega
      rw [this]
      exact ih
    | some x =>
      obtain ⟨u, h1, h2⟩ := h.get q
      rw [h1]
      exact .cons h2 ih
def KB (fd : FuncData) (ps ks : List Str) (perm : List Nat) : Prop := ∀ (s : Shared) (ws : List Value), ws.length = ks.length → BindsTo s fd ⟨[], ks.zip ws⟩ (ps.zip (pick perm ws))
theorem kb_of {K : Fg} {x qual : Str} {st : Stmt} {f : Addr} {fd : FuncData} {ps ks : List Str} {perm : List Nat} (Fu : Fun K x qual st f fd)
    (h : ∀ (kV doc pm : Value) (an : Option Addr) (cdv ct : Value) (ws : List Value), ws.length = ks.length → bindArgs (PySem.W.fnOf x qual (defArgs st) (defBody st) (defScope st) .none kV doc pm an cdv ct) ⟨[], ks.zip ws⟩ = pure (ps.zip (pick perm ws))) : KB fd ps ks perm := by
  obtain ⟨oc, od, kV, doc, pm, an, cdv, ct, osl, rfl, lk, hcd⟩ := Fu.ex
  exact fun s ws hl => .of_eq (h kV doc pm an cdv ct ws hl)
def dCallK (np nk : Nat) (perm : List Nat) (fs : FSp) (ta : DA) : DE := fun g Q => ta g fun rs g1 => rs.length = nk ∧ (pick perm rs).length = np ∧ hasSrc (pick perm rs) = false ∧ fs (pick perm rs) none fun r _ => Q (rrv r) g1
section
variable {X : Cx} {CX : CXT} {k : Nat} {f : Addr} {fd : FuncData} {ps ks : List Str} {fs : FSp} {E : XK} {x : Str} {p pos kpos : Pos} {e : Expr} {kws : List Keyword} {te : DE} {tr : DA} {nm : Option Str} {np : Nat} {perm : List Nat}
theorem k_nil : PK X [] (upA X.K dNil) := ⟨fun pos pins s σ H Q I q => by
  obtain ⟨c, g, tv, tr, F, ad, post, st, t, k⟩ := q
  exact pk_nil.run pos pins s σ H Q I (k [] g [] H F ad t st rfl)⟩
theorem k_cons (h : PE X e (up X.K te)) (hr : PK X kws (upA X.K tr)) : PK X (⟨nm, e, kpos⟩ :: kws) (upA X.K (dCons te tr)) := ⟨fun pos pins s σ H Q I q => by
  refine (pk_cons (nm := nm) (kpos := kpos) h hr).run pos pins s σ H Q I ?_
  obtain ⟨c, g, tv, tr, F, ad, post, s, t, k⟩ := q
  refine ⟨c, g, tv, tr, F, ad, _, s, t, fun x g1 v1 H1 F1 a1 t1 s1 => ?_⟩
  refine ⟨c, g1, _, _, F1, a1, _, s1, t1, fun xs g2 vs H2 F2 a2 t2 s2 hl => ?_⟩
  refine k (x :: xs) g2 (v1 :: vs) H2 F2 a2 t2 ?_ (by simp [hl])
  rw [List.reverse_cons, List.reverse_cons, List.append_assoc, List.append_assoc]
  exact s2⟩
theorem e_callK (G : Fn X.prog X.w X.K X.mg X.base CX k f fd ps (lift X.K np fs)) (hr : Room k X.A) (hgd : X.A.guards = some []) (hg : Gl X x) (hm : X.mg x = some (.ref f)) (hk : PySem.W.keepIn X.K (.ref f) = true) (hb : KB fd ps ks perm) (hx : Passes CX X E)
    (hkw : PK X kws (upA X.K tr)) (hall : (backToKw pos (keywordEach kws X.env)).all (·.1.isSome) = true := by rfl) (hks : (backToKw pos (keywordEach kws X.env)).filterMap (·.1) = ks := by rfl) (hdb : (x == ("__debug__" : Str)) = false := by decide)
    (hpl : ((backTo pos (starEach [] X.env)).any (·.1) || (backToKw pos (keywordEach kws X.env)).any (·.1.isNone)) = false := by rfl) : PE X (.Call (.Name x p) [] kws pos) (up X.K (dCallK np ks.length perm fs tr)) := by
  refine ⟨fun pins s σ H Q I q => ?_⟩
  refine wpAny_Call_Name_kw (ld_glob I hg hm ?_ hdb)
  refine PySem.W.callWith_KW0 (h₀ := X.base) I.ok.mod.kin hk hall (thn (hkw.run pos pins s σ H (fun vs H1 => vs.length = ks.length ∧ lift X.K np fs (pick perm vs) H1 Q E) I ?_) fun us s1 ⟨vs, H1, I1, r, hn, q1⟩ => ⟨I1.kIn, ?_⟩) hpl
  · obtain ⟨c, g, tv, tr, F, ad, post, s, t, k⟩ := q
    refine ⟨c, g, tv, tr, F, ad, _, s, t, fun rs g1 vs H1 F1 a1 t1 s1 hl => ?_⟩
    obtain ⟨hk, hn, hs, t1⟩ := t1
    obtain ⟨m1, m2⟩ := s1.tmp.args hl
    have s2 := s1.pop m2
    have mp := m1.pick perm
    refine ⟨by rw [hl]; exact hk, F1, a1, _, none, _, s1.eh, mp.noSrc hs, by rw [mp.len]; exact hn, fun n h => by (cases h), t1, fun r fu' v H' F' hp o => ?_⟩
    have s3 := s2.after0 o
    cases r with
    | val d => exact k _ _ v H' F' a1 hp (s3.push (r := .val d) o.rep)
    | own ds =>
      obtain ⟨F'', s4⟩ := s3.still (NewL.of s2 rfl id o.rep)
      exact k _ _ v H' F'' a1 hp s4
  · rw [hks]
    refine wpAny_call (codeAny_mono (fn_run G hr hgd hx I1 (hb s1 us (by rw [← r.length]; exact hn)) (Vals.pick r perm) q1) fun r s' hq => ?_)
    match r, hq with
    | .error e, hq => exact hq
    | .ok (.ret u), hq => exact hq
    | .ok .next, hq => exact hq.elim
    | .ok .brk, hq => exact hq.elim
    | .ok .cont, hq => exact hq.elim
end
end Z

namespace Z
open L2 PySem PySem.Spec PyProof.Rows
open Evl (Ex ex_l ex_t ex_rd fresh_back)
/-! ### what is shown may be compared -/
def Cps (x : Str) : Prop := ∀ c ∈ x.cps.toList, c < 0x110000
theorem cps_ok {x : Str} : PyData.strOk x = true ↔ Cps x := by
  unfold PyData.strOk Cps
  rw [Array.all_eq_true_iff_forall_mem]
  simp
theorem cps_of (s : String) : Cps (Str.ofString s) := by
  rw [Str.ofString_eq_toList]
  intro c hc
  simp only [List.mem_map] at hc
  obtain ⟨ch, _, rfl⟩ := hc
  have := ch.valid
  show ch.val.toNat < _
  rcases this with h | h
  · exact Nat.lt_trans h (by decide)
  · exact h.2
theorem cps_app {x y : Str} (hx : Cps x) (hy : Cps y) : Cps (x ++ y) := by
  intro c hc
  have : c ∈ (x.cps ++ y.cps).toList := hc
  rw [Array.toList_append, List.mem_append] at this
  exact this.elim (hx c) (hy c)
theorem cps_char {q c : Nat} (hq : q < 0x110000) (hc : c < 0x110000) : ∀ k ∈ Builtin.Str.reprChar q c, k < 0x110000 := by
  have hh : ∀ (w : Nat), ∀ k ∈ List.replicate (w - ((Nat.toDigits 16 c).map Char.toNat).length) 48 ++ (Nat.toDigits 16 c).map Char.toNat, k < 0x110000 := fun w k hk => by
    rw [List.mem_append] at hk
    rcases hk with h | h
    · have := (List.mem_replicate.mp h).2; omega
    · obtain ⟨ch, _, rfl⟩ := List.mem_map.mp h
      have := ch.valid
      show ch.val.toNat < _
      rcases this with h | h
      · exact Nat.lt_trans h (by decide)
      · exact h.2
  intro k hk
  unfold Builtin.Str.reprChar at hk
  dsimp only at hk
  repeat' split at hk
  all_goals first
    | (simp only [List.mem_append, List.mem_cons, List.not_mem_nil, or_false] at hk; omega)
    | (rw [List.mem_append] at hk
       rcases hk with h | h
       · (simp only [List.mem_cons, List.not_mem_nil, or_false] at h; omega)
       · exact hh _ k h)
theorem cps_fold {q : Nat} (hq : q < 0x110000) : ∀ (l : List Nat) (acc : Array Nat), (∀ c ∈ l, c < 0x110000) → (∀ c ∈ acc.toList, c < 0x110000) → ∀ c ∈ (l.foldl (fun out c => out ++ (Builtin.Str.reprChar q c).toArray) acc).toList, c < 0x110000
  | [], _, _, ha => ha
  | x :: l, acc, hl, ha => by
    rw [List.foldl_cons]
    refine cps_fold hq l _ (fun c hc => hl c (List.mem_cons_of_mem _ hc)) fun c hc => ?_
    rw [Array.toList_append, List.mem_append] at hc
    rcases hc with h | h
    · exact ha c h
    · exact cps_char hq (hl x List.mem_cons_self) c (by simpa using h)
theorem cps_repr {x : Str} (h : Cps x) : Cps (reprText x) := by
  have hq : reprQuote x < 0x110000 := by unfold reprQuote; split <;> decide
  intro c hc
  unfold reprText at hc
  rw [Array.toList_push, List.mem_append, ← Array.foldl_toList] at hc
  rcases hc with hc | hc
  · refine cps_fold hq _ _ h (fun d hd => ?_) c hc
    have : d = reprQuote x := by simpa using hd
    omega
  · have : c = reprQuote x := by simpa using hc
    omega
theorem cps_text : ∀ (ts : List Str) (k : Nat) (acc : Str), Cps acc → (∀ t ∈ ts, Cps t) → Cps (textFrom k acc ts)
  | [], _, _, ha, _ => ha
  | t :: ts, k, acc, ha, h => cps_text ts (k + 1) _ (cps_app (cps_app ha (cps_of _)) (h t List.mem_cons_self)) fun u hu => h u (List.mem_cons_of_mem _ hu)
theorem cps_join {sep : Str} (hs : Cps sep) : ∀ ts : List Str, (∀ t ∈ ts, Cps t) → Cps (Str.join sep ts)
  | [], _ => fun c hc => by simp [Str.join, Str.empty] at hc
  | [x], h => h x List.mem_cons_self
  | x :: y :: r, h => cps_app (cps_app (h x List.mem_cons_self) hs) (cps_join hs (y :: r) fun t ht => h t (List.mem_cons_of_mem _ ht))
mutual
theorem cps_shown : ∀ d : Da, d.canLay0 = true → Cps d.shown
  | .none, _ => cps_of _
  | .bool b, _ => by cases b <;> exact cps_of _
  | .int i, _ => cps_of _
  | .str x, h => cps_repr (cps_ok.mp (by simpa [PyData.canLay0] using h))
  | .list xs, h => cps_app (cps_text _ _ _ (cps_of _) (cps_all xs (by simpa [PyData.canLay0] using h))) (cps_of _)
  | .tuple xs, h => cps_app (cps_app (cps_of _) (cps_join (cps_of _) _ (cps_all xs (by simpa [PyData.canLay0] using h)))) (cps_of _)
  | .dict _, h => by simp [PyData.canLay0] at h
theorem cps_all : ∀ xs : List Da, PyData.canLayAll0 xs = true → ∀ t ∈ PyData.shownAll xs, Cps t
  | [], _, t, ht => by simp [PyData.shownAll] at ht
  | x :: xs, h, t, ht => by
    have q : x.canLay0 = true ∧ PyData.canLayAll0 xs = true := by simpa [PyData.canLayAll0] using h
    rcases List.mem_cons.mp (show t ∈ x.shown :: PyData.shownAll xs from ht) with rfl | ht
    · exact cps_shown x q.1
    · exact cps_all xs q.2 t ht
end
theorem shaped_str {x : Str} (h : Cps x) : SeqAt.shaped (.str x) = true := by
  have h1 : PyData.canLay0 (.str x) = true := cps_ok.mpr h
  unfold SeqAt.shaped
  rw [h1]
  rfl
theorem shaped_strs {x y : Str} (hx : Cps x) (hy : Cps y) : SeqAt.shaped (.list [.str x, .str y]) = true := by
  have h1 : PyData.canLay0 (.list [.str x, .str y]) = true := by
    have a : PyData.strOk x = true := cps_ok.mpr hx
    have b : PyData.strOk y = true := cps_ok.mpr hy
    simp [PyData.canLay0, PyData.canLayAll0, a, b]
  unfold SeqAt.shaped
  rw [h1]
  rfl
theorem eqv_strs (a b c d : Str) : (PyData.list [.str a, .str b]).eqv (.list [.str c, .str d]) = (decide (a = c) && decide (b = d)) := by
  simp [PyData.eqv, PyData.eqvAll]
  by_cases h1 : a = c <;> by_cases h2 : b = d <;> simp [h1, h2]
theorem cps_num (n d : Int) : Cps (PyData.tuple [.int n, .int d]).shown := cps_shown _ rfl
theorem cps_nums (n d m e : Int) : Cps (PyData.tuple [.tuple [.int n, .int d], .tuple [.int m, .int e]]).shown := cps_shown _ rfl
theorem showI {n : Int} (h : Bn 1900 n) : n.natAbs.log2 < 1920 := by
  by_cases h0 : n.natAbs = 0
  · rw [h0]; decide
  · exact (Nat.log2_lt h0).mpr (Nat.lt_trans h.lt (Nat.pow_lt_pow_right (by decide) (by decide)))
theorem Sh.num {n d : Int} (hn : Bn 1900 n) (hd : Bn 1900 d) : Sh (Z.num n d) := by
  refine ⟨rfl, ?_, by show 1 ≤ 60; decide, by show 1921 + 2 + (1921 + 2 + 0) + 3 ≤ 16000000; decide⟩
  have := showI hn
  have := showI hd
  simp [PyData.showable, PyData.showableAll, *]
theorem Sh.nums {n d m e : Int} (hn : Bn 1900 n) (hd : Bn 1900 d) (hm : Bn 1900 m) (he : Bn 1900 e) : Sh (.tuple [Z.num n d, Z.num m e]) := by
  refine ⟨rfl, ?_, by show 2 ≤ 60; decide, by show (1921 + 2 + (1921 + 2 + 0) + 3) + 2 + ((1921 + 2 + (1921 + 2 + 0) + 3) + 2 + 0) + 3 ≤ 16000000; decide⟩
  have := showI hn
  have := showI hd
  have := showI hm
  have := showI he
  simp [PyData.showable, PyData.showableAll, *]
theorem Sh.int {n : Int} (hn : Bn 1900 n) : Sh (.int n) := by
  refine ⟨rfl, ?_, by show 0 ≤ 60; decide, by show 1921 ≤ 16000000; decide⟩
  have := showI hn
  simp [PyData.showable, *]
theorem Sh.none : Sh .none := ⟨rfl, rfl, by decide, by decide⟩
theorem Sh.bool (b : Bool) : Sh (.bool b) := ⟨rfl, rfl, by show 0 ≤ 60; decide, by show 5 ≤ 16000000; decide⟩
theorem pick_0 {α : Type} (a : α) : pick [0] [a] = [a] := rfl
theorem pick_01 {α : Type} (a b : α) : pick [0, 1] [a, b] = [a, b] := rfl
theorem pick_10 {α : Type} (a b : α) : pick [1, 0] [a, b] = [b, a] := rfl
theorem pick_012 {α : Type} (a b c : α) : pick [0, 1, 2] [a, b, c] = [a, b, c] := rfl
theorem pick_021 {α : Type} (a b c : α) : pick [0, 2, 1] [a, b, c] = [a, c, b] := rfl
theorem pick_102 {α : Type} (a b c : α) : pick [1, 0, 2] [a, b, c] = [b, a, c] := rfl
theorem pick_120 {α : Type} (a b c : α) : pick [1, 2, 0] [a, b, c] = [b, c, a] := rfl
theorem pick_201 {α : Type} (a b c : α) : pick [2, 0, 1] [a, b, c] = [c, a, b] := rfl
theorem pick_210 {α : Type} (a b c : α) : pick [2, 1, 0] [a, b, c] = [c, b, a] := rfl
theorem boolsD_true : ∀ ds : List Da, boolsD (ds.map fun _ => .bool true) = some (ds.map fun _ => true)
  | [] => rfl
  | d :: ds => by
    have := boolsD_true ds
    simp [boolsD, this]
theorem rangeD_mem {lo : Int} {n : Nat} {x : Da} (h : x ∈ rangeD lo n) : ∃ i : Int, x = .int i ∧ lo ≤ i ∧ i < lo + n := by
  unfold rangeD at h
  obtain ⟨i, hi, rfl⟩ := List.mem_map.mp h
  have := List.mem_range.mp hi
  exact ⟨_, rfl, by omega, by omega⟩
theorem all_true (ds : List Da) : (ds.map fun _ => true).all id = true := by
  induction ds with
  | nil => rfl
  | cons d ds ih => simpa using ih
/-! ### places of a law's draws -/
theorem low_pos {n d : Int} (hn : 0 < n) (hd : 0 < d) : 0 < (low n d).1 ∧ 0 < (low n d).2 ∧ Int.gcd (low n d).1 (low n d).2 = 1 ∧ (low n d).1 ≤ n ∧ (low n d).2 ≤ d := by
  have g0 := gcd_pos (a := n) hd
  have d1 : (Int.gcd n d : Int) ∣ n := Int.gcd_dvd_left n d
  have d2 : (Int.gcd n d : Int) ∣ d := Int.gcd_dvd_right n d
  refine ⟨Int.ediv_pos_of_pos_of_dvd hn (Int.le_of_lt g0) d1, Int.ediv_pos_of_pos_of_dvd hd (Int.le_of_lt g0) d2, ?_, Int.ediv_le_self _ (Int.le_of_lt hn), Int.ediv_le_self _ (Int.le_of_lt hd)⟩
  show Int.gcd (n / Int.gcd n d) (d / Int.gcd n d) = 1
  exact Int.gcd_ediv_gcd_ediv_gcd (by omega)
end Z

namespace Z
open L2 PySem PySem.Spec PyProof.Rows
theorem bl_le {n : Int} {a : Nat} (h : Bn a n) : bl n ≤ a := by
  unfold bl
  have := bits_lt h
  omega
theorem bl_nn (n : Int) : 0 ≤ bl n := by unfold bl; omega
/-! ### odd parts -/
def oddN (n : Nat) : Nat := if h : n = 0 then 0 else if n % 2 = 0 then oddN (n / 2) else n
termination_by n
decreasing_by omega
theorem oddN_even {n : Nat} (h : 0 < n) (h2 : n % 2 = 0) : oddN n = oddN (n / 2) := by
  rw [oddN]
  rw [dif_neg (by omega), if_pos h2]
theorem oddN_odd {n : Nat} (h2 : n % 2 = 1) : oddN n = n := by
  rw [oddN]
  rw [dif_neg (by omega), if_neg (by omega)]
theorem oddN_spec (n : Nat) : 0 < n → oddN n % 2 = 1 ∧ ∃ b, n = oddN n * 2 ^ b := by
  induction n using Nat.strongRecOn with
  | ind n ih =>
    intro h
    by_cases h2 : n % 2 = 0
    · rw [oddN_even h h2]
      obtain ⟨o, b, e⟩ := ih (n / 2) (by omega) (by omega)
      refine ⟨o, b + 1, ?_⟩
      rw [Nat.pow_succ, ← Nat.mul_assoc, ← e]
      omega
    · rw [oddN_odd (by omega)]
      exact ⟨by omega, 0, by simp⟩
theorem odd_uniq {o p x y : Nat} (ho : o % 2 = 1) (hp : p % 2 = 1) (h : o * 2 ^ x = p * 2 ^ y) : o = p ∧ x = y := by
  induction x generalizing y with
  | zero =>
    cases y with
    | zero => simpa using h
    | succ y =>
      rw [Nat.pow_succ, ← Nat.mul_assoc] at h
      simp at h
      omega
  | succ x ih =>
    cases y with
    | zero =>
      rw [Nat.pow_succ, ← Nat.mul_assoc] at h
      simp at h
      omega
    | succ y =>
      rw [Nat.pow_succ, Nat.pow_succ, ← Nat.mul_assoc, ← Nat.mul_assoc] at h
      have := ih (y := y) (Nat.eq_of_mul_eq_mul_right (by decide) h)
      omega
theorem oddN_is {n o b : Nat} (ho : o % 2 = 1) (h : n = o * 2 ^ b) : oddN n = o := by
  have hn : 0 < n := by rw [h]; exact Nat.mul_pos (by omega) (Nat.pow_pos (by decide))
  obtain ⟨h1, c, h2⟩ := oddN_spec n hn
  exact (odd_uniq h1 ho (h2.symm.trans h)).1
theorem oddN_mul {n : Nat} (h : 0 < n) (k : Nat) : oddN (n * 2 ^ k) = oddN n := by
  obtain ⟨h1, b, e⟩ := oddN_spec n h
  refine oddN_is (b := b + k) h1 ?_
  rw [Nat.pow_add, ← Nat.mul_assoc, ← e]
theorem oddN_pos {n : Nat} (h : 0 < n) : 0 < oddN n := by have := (oddN_spec n h).1; omega
theorem oddN_le {n : Nat} (h : 0 < n) : oddN n ≤ n := by
  obtain ⟨_, b, e⟩ := oddN_spec n h
  have : oddN n * 1 ≤ oddN n * 2 ^ b := Nat.mul_le_mul_left _ (Nat.pow_pos (by decide))
  omega
theorem cop_two {p : Nat} (h : p % 2 = 1) (k : Nat) : Nat.Coprime p (2 ^ k) := by
  refine Nat.Coprime.pow_right k ?_
  have h1 : Nat.gcd p 2 ∣ 2 := Nat.gcd_dvd_right p 2
  have h2 : Nat.gcd p 2 ∣ p := Nat.gcd_dvd_left p 2
  have h3 : Nat.gcd p 2 ≤ 2 := Nat.le_of_dvd (by decide) h1
  have h4 : 0 < Nat.gcd p 2 := Nat.gcd_pos_of_pos_right _ (by decide)
  rcases Nat.lt_or_ge (Nat.gcd p 2) 2 with h5 | h5
  · show Nat.gcd p 2 = 1; omega
  · have h6 : Nat.gcd p 2 = 2 := by omega
    rw [h6] at h2
    omega
theorem oddN_pow2 {d k : Nat} (h : d ∣ 2 ^ k) : oddN d = 1 := by
  have hd : 0 < d := Nat.pos_of_dvd_of_pos h (Nat.pow_pos (by decide))
  obtain ⟨h1, b, e⟩ := oddN_spec d hd
  have : oddN d ∣ 2 ^ k := Nat.dvd_trans ⟨2 ^ b, e⟩ h
  exact Nat.Coprime.eq_one_of_dvd (cop_two h1 k) this
theorem pow2_and {d : Int} (h : 0 < d) : Builtin.bitAnd d (d - 1) = 0 ↔ oddN d.toNat = 1 := by
  have e : Builtin.bitAnd d (d - 1) = ((d.toNat &&& (d.toNat - 1) : Nat) : Int) := by
    unfold Builtin.bitAnd
    rw [decide_eq_true (show 0 ≤ d by omega), decide_eq_true (show 0 ≤ d - 1 by omega)]
    show ((d.toNat &&& (d - 1).toNat : Nat) : Int) = _
    rw [show (d - 1).toNat = d.toNat - 1 by omega]
  rw [e, Int.ofNat_eq_zero, Nat.and_sub_one_eq_zero_iff_isPowerOfTwo (by omega)]
  constructor
  · rintro ⟨k, hk⟩
    rw [hk]
    exact oddN_pow2 (Nat.dvd_refl _)
  · intro h1
    obtain ⟨_, b, e⟩ := oddN_spec d.toNat (by omega)
    rw [h1, Nat.one_mul] at e
    exact ⟨b, e⟩
/-- the least width, as the program gives it -/
def lwI (n d : Int) : Da := if oddN d.toNat = 1 then .int (bl (oddN n.toNat)) else .none
theorem eqv_bb (a b : Bool) : (PyData.bool a).eqv (.bool b) = (a == b) := by cases a <;> cases b <;> rfl
theorem shaped_bool (a : Bool) : SeqAt.shaped (.bool a) = true := rfl
theorem lowZ {x y : Int} (hy : 0 < y) : (low x y).1 = 0 ↔ x = 0 := by
  have g0 := gcd_pos (a := x) hy
  have d1 : (Int.gcd x y : Int) ∣ x := Int.gcd_dvd_left x y
  constructor
  · intro h
    have h' : x / Int.gcd x y = 0 := h
    have := Int.ediv_mul_cancel d1
    rw [h'] at this
    omega
  · rintro rfl
    exact Int.zero_ediv _
theorem bl_le_iff {x : Nat} (hx : 0 < x) {w : Nat} : bl (x : Int) ≤ w ↔ x < 2 ^ w := by
  obtain ⟨m, e, h1, h2⟩ := bl_pos (n := (x : Int)) (by omega)
  have h1' : 2 ^ m ≤ x := by exact_mod_cast h1
  have h2' : x < 2 ^ (m + 1) := by exact_mod_cast h2
  rw [e]
  constructor
  · intro h
    exact Nat.lt_of_lt_of_le h2' (Nat.pow_le_pow_right (by decide) (by omega))
  · intro h
    have := (Nat.pow_lt_pow_iff_right (a := 2) (by decide)).mp (Nat.lt_of_le_of_lt h1' h)
    omega
/-- a rest of zero: only numbers of this width have it -/
theorem rest_zero {n d A B w : Nat} (hn : 0 < n) (hd : 0 < d) (hg : Nat.Coprime n d) (h1 : 2 ^ w ≤ n * 2 ^ A / (d * 2 ^ B)) (h2 : n * 2 ^ A / (d * 2 ^ B) < 2 ^ (w + 1)) :
    n * 2 ^ A % (d * 2 ^ B) = 0 ↔ oddN d = 1 ∧ oddN n < 2 ^ (w + 1) := by
  obtain ⟨o1, b, e1⟩ := oddN_spec n hn
  obtain ⟨o2, a, e2⟩ := oddN_spec d hd
  have hD : 0 < d * 2 ^ B := Nat.mul_pos hd (Nat.pow_pos (by decide))
  constructor
  · intro h
    have hv : d * 2 ^ B ∣ n * 2 ^ A := Nat.dvd_of_mod_eq_zero h
    have hd1 : d ∣ 2 ^ A := Nat.Coprime.dvd_of_dvd_mul_left (Nat.Coprime.symm hg) (Nat.dvd_trans ⟨2 ^ B, rfl⟩ hv)
    have p1 := oddN_pow2 hd1
    refine ⟨p1, ?_⟩
    generalize hk : n * 2 ^ A / (d * 2 ^ B) = k at h1 h2
    have hk0 : 0 < k := Nat.lt_of_lt_of_le (Nat.pow_pos (by decide)) h1
    have e3 : n * 2 ^ A = k * (d * 2 ^ B) := by rw [← hk]; exact (Nat.div_mul_cancel hv).symm
    obtain ⟨o3, c, e4⟩ := oddN_spec k hk0
    have e5 : oddN n * 2 ^ (b + A) = oddN k * 2 ^ (c + (a + B)) := by
      rw [p1, Nat.one_mul] at e2
      rw [Nat.pow_add, ← Nat.mul_assoc, ← e1, Nat.pow_add, ← Nat.mul_assoc, ← e4, Nat.pow_add, ← e2]
      exact e3
    have := (odd_uniq o1 o3 e5).1
    have := oddN_le hk0
    omega
  · rintro ⟨p1, p2⟩
    rw [p1, Nat.one_mul] at e2
    have eN : n * 2 ^ A = oddN n * 2 ^ (b + A) := by rw [Nat.pow_add, ← Nat.mul_assoc, ← e1]
    have eD : d * 2 ^ B = 2 ^ (a + B) := by rw [Nat.pow_add, ← e2]
    rw [eN, eD] at h1 ⊢
    by_cases hc : a + B ≤ b + A
    · refine Nat.mod_eq_zero_of_dvd (Nat.dvd_trans (Nat.pow_dvd_pow 2 hc) ⟨oddN n, Nat.mul_comm _ _⟩)
    · exfalso
      obtain ⟨t, ht⟩ : ∃ t, a + B = t + 1 + (b + A) := ⟨a + B - (b + A) - 1, by omega⟩
      rw [ht, Nat.pow_add 2 (t + 1) (b + A), Nat.mul_comm (2 ^ (t + 1)), Nat.mul_comm (oddN n), Nat.mul_div_mul_left _ _ (Nat.pow_pos (by decide))] at h1
      have h3 := (Nat.le_div_iff_mul_le (Nat.pow_pos (by decide))).mp h1
      have h4 : 2 ^ w * 2 ≤ 2 ^ w * 2 ^ (t + 1) := Nat.mul_le_mul_left _ (by rw [Nat.pow_succ]; have := Nat.pow_pos (n := t) (show 0 < 2 by decide); omega)
      rw [Nat.pow_succ] at p2
      omega
theorem natI {n : Int} (h : 0 < n) : ∃ m : Nat, n = (m : Int) ∧ 0 < m := ⟨n.toNat, by omega, by omega⟩
theorem pos_lw {n d w : Int} (hn : 0 < n) (hd : 0 < d) (hg : Int.gcd n d = 1) (hw : 1 ≤ w) : (posI n d w).1 = 0 ↔ oddN d.toNat = 1 ∧ bl (oddN n.toNat) ≤ w := by
  obtain ⟨c0, c1, c2, _⟩ := cellI_spec hn hd hw
  obtain ⟨a0, b0⟩ := scI_pos (f := 0 - (cellI n d w).2) hn hd
  unfold posI
  rw [lowZ b0]
  generalize (cellI n d w).1 = k at c0 c1 c2 ⊢
  generalize (cellI n d w).2 = e at c0 a0 b0 ⊢
  have e1 : (scI n d (0 - e)).1 - k * (scI n d (0 - e)).2 = (scI n d (0 - e)).1 % (scI n d (0 - e)).2 := by rw [c0, Int.emod_def, Int.mul_comm]
  rw [e1]
  unfold scI at c0 ⊢
  obtain ⟨n', rfl, hn'⟩ := natI hn
  obtain ⟨d', rfl, hd'⟩ := natI hd
  obtain ⟨w', rfl⟩ : ∃ w' : Nat, w = (w' : Int) + 1 := ⟨(w - 1).toNat, by omega⟩
  have ew : ((w' : Int) + 1).toNat = w' + 1 := by omega
  have ew2 : ((w' : Int) + 1 - 1).toNat = w' := by omega
  rw [ew] at c2
  rw [ew2] at c1
  dsimp only at c0 ⊢
  generalize (0 - e).toNat = A at c0 ⊢
  generalize (-(0 - e)).toNat = B at c0 ⊢
  have cast1 : (n' : Int) * 2 ^ A = ((n' * 2 ^ A : Nat) : Int) := by push_cast; rfl
  have cast2 : (d' : Int) * 2 ^ B = ((d' * 2 ^ B : Nat) : Int) := by push_cast; rfl
  rw [cast1, cast2] at c0 ⊢
  rw [← Int.natCast_ediv] at c0
  rw [c0] at c1 c2
  have r := rest_zero (A := A) (B := B) (w := w') hn' hd' (by simpa [Nat.Coprime, Int.gcd] using hg) (by exact_mod_cast c1) (by exact_mod_cast c2)
  rw [← Int.natCast_emod, Int.ofNat_eq_zero, r]
  show _ ↔ oddN d' = 1 ∧ bl (oddN n' : Int) ≤ ((w' + 1 : Nat) : Int)
  rw [bl_le_iff (oddN_pos hn')]
/-! ### times a power of two -/
theorem scl_odd {n d : Nat} (hn : 0 < n) (hd : 0 < d) (hg : Nat.Coprime n d) (A B : Nat) : oddN (n * 2 ^ A / Nat.gcd (n * 2 ^ A) (d * 2 ^ B)) = oddN n ∧ oddN (d * 2 ^ B / Nat.gcd (n * 2 ^ A) (d * 2 ^ B)) = oddN d := by
  have hN : 0 < n * 2 ^ A := Nat.mul_pos hn (Nat.pow_pos (by decide))
  have hD : 0 < d * 2 ^ B := Nat.mul_pos hd (Nat.pow_pos (by decide))
  have hG : 0 < Nat.gcd (n * 2 ^ A) (d * 2 ^ B) := Nat.gcd_pos_of_pos_left _ hN
  obtain ⟨o1, b, e1⟩ := oddN_spec n hn
  obtain ⟨o2, a, e2⟩ := oddN_spec d hd
  -- the divisor is a power of two
  have hv : oddN (Nat.gcd (n * 2 ^ A) (d * 2 ^ B)) = 1 := by
    obtain ⟨o3, c, e3⟩ := oddN_spec _ hG
    generalize hq : oddN (Nat.gcd (n * 2 ^ A) (d * 2 ^ B)) = q at o3 e3
    have hq1 : q ∣ n * 2 ^ A := Nat.dvd_trans ⟨2 ^ c, e3⟩ (Nat.gcd_dvd_left _ _)
    have hq2 : q ∣ d * 2 ^ B := Nat.dvd_trans ⟨2 ^ c, e3⟩ (Nat.gcd_dvd_right _ _)
    have h1 : q ∣ n := (cop_two o3 A).dvd_of_dvd_mul_right hq1
    have h2 : q ∣ d := (cop_two o3 B).dvd_of_dvd_mul_right hq2
    have := Nat.dvd_gcd h1 h2
    rw [show Nat.gcd n d = 1 from hg] at this
    exact Nat.dvd_one.mp this
  obtain ⟨_, c, e3⟩ := oddN_spec _ hG
  rw [hv, Nat.one_mul] at e3
  have f1 := Nat.div_mul_cancel (Nat.gcd_dvd_left (n * 2 ^ A) (d * 2 ^ B))
  have f2 := Nat.div_mul_cancel (Nat.gcd_dvd_right (n * 2 ^ A) (d * 2 ^ B))
  constructor
  · have hp : 0 < n * 2 ^ A / Nat.gcd (n * 2 ^ A) (d * 2 ^ B) := Nat.div_pos (Nat.le_of_dvd hN (Nat.gcd_dvd_left _ _)) hG
    rw [← oddN_mul hp c, ← e3, f1, oddN_mul hn]
  · have hp : 0 < d * 2 ^ B / Nat.gcd (n * 2 ^ A) (d * 2 ^ B) := Nat.div_pos (Nat.le_of_dvd hD (Nat.gcd_dvd_right _ _)) hG
    rw [← oddN_mul hp c, ← e3, f2, oddN_mul hd]
theorem lw_low {n d e : Int} (hn : 0 < n) (hd : 0 < d) (hg : Int.gcd n d = 1) : lwI (low (scI n d e).1 (scI n d e).2).1 (low (scI n d e).1 (scI n d e).2).2 = lwI n d := by
  obtain ⟨n', rfl, hn'⟩ := natI hn
  obtain ⟨d', rfl, hd'⟩ := natI hd
  unfold low scI lwI
  dsimp only
  generalize e.toNat = A
  generalize (-e).toNat = B
  have cast1 : (n' : Int) * 2 ^ A = ((n' * 2 ^ A : Nat) : Int) := by push_cast; rfl
  have cast2 : (d' : Int) * 2 ^ B = ((d' * 2 ^ B : Nat) : Int) := by push_cast; rfl
  rw [cast1, cast2, show Int.gcd ((n' * 2 ^ A : Nat) : Int) ((d' * 2 ^ B : Nat) : Int) = Nat.gcd (n' * 2 ^ A) (d' * 2 ^ B) by simp only [Int.gcd, Int.natAbs_natCast], ← Int.natCast_ediv, ← Int.natCast_ediv, Int.toNat_natCast, Int.toNat_natCast, Int.toNat_natCast, Int.toNat_natCast]
  obtain ⟨q1, q2⟩ := scl_odd hn' hd' (by simpa [Nat.Coprime, Int.gcd] using hg) A B
  rw [q1, q2]
end Z

namespace Z
open L2 PySem PySem.Spec PyProof.Rows
open Evl (Ex ex_l ex_t ex_rd fresh_back)
/-! ### reversed -/
theorem rev_get {α : Type} {ds : List α} {i : Nat} (hi : i < ds.length) : ds.reverse[i]? = ds[ds.length - 1 - i]? := by
  rw [List.getElem?_reverse hi]
theorem walkD_rev {K : Fg} {p : Addr} {ds : List Da} {n : Nat} (hn : n = ds.length) : WalkD K (Itv K p n) ds.reverse [.ref p] [.val (.list ds)] := by
  subst hn
  have get : ∀ {F H : Hp} {a : Addr} {fu : Option Nat}, Ex F H → Tm K F a fu [.ref p] [.val (.list ds)] → ∃ xs, SqL K H p xs ∧ Rps K F xs ds := fun {F H a fu} e t => by
    cases t with
    | cons h _ =>
      have h' : Rp K F (.ref p) (.list ds) := h
      cases h' with
      | lst sq m => exact ⟨_, .inl (.inl (e _ _ sq)), m⟩
  refine ⟨fun i F H a fu e t hi => ?_, fun F H a fu e t => ?_, fun i F H a fu x H' e t hi y => ?_⟩
  · rw [List.length_reverse] at hi
    obtain ⟨xs, sq, m⟩ := get e t
    obtain ⟨v, h1, _⟩ := m.get (List.getElem?_eq_getElem (show ds.length - 1 - i < ds.length by omega))
    exact ⟨hi, xs, v, sq, h1⟩
  · exact Nat.le_of_eq (List.length_reverse ..).symm
  · rw [List.length_reverse] at hi
    obtain ⟨xs, sq, m⟩ := get e t
    have hj : ds.length - 1 - i < ds.length := by omega
    obtain ⟨v, h1, h2⟩ := m.get (List.getElem?_eq_getElem hj)
    obtain ⟨rfl, hx⟩ := y
    rw [hx xs sq] at h1
    cases h1
    exact ⟨F, _, by rw [rev_get hi]; exact List.getElem?_eq_getElem hj, Gr.refl e, h2⟩
theorem walkD_revT {K : Fg} {p : Addr} {ds : List Da} {n : Nat} (hn : n = ds.length) : WalkD K (RT.ItvT K p n) ds.reverse [.ref p] [.val (.tuple ds)] := by
  subst hn
  have get : ∀ {F H : Hp} {a : Addr} {fu : Option Nat}, Ex F H → Tm K F a fu [.ref p] [.val (.tuple ds)] → ∃ xs, SqT K H p xs ∧ Rps K F xs ds := fun {F H a fu} e t => by
    cases t with
    | cons h _ =>
      have h' : Rp K F (.ref p) (.tuple ds) := h
      cases h' with
      | tup sq m => exact ⟨_, ex_t e sq, m⟩
  refine ⟨fun i F H a fu e t hi => ?_, fun F H a fu e t => ?_, fun i F H a fu x H' e t hi y => ?_⟩
  · rw [List.length_reverse] at hi
    obtain ⟨xs, sq, m⟩ := get e t
    obtain ⟨v, h1, _⟩ := m.get (List.getElem?_eq_getElem (show ds.length - 1 - i < ds.length by omega))
    exact ⟨hi, xs, v, sq, h1⟩
  · exact Nat.le_of_eq (List.length_reverse ..).symm
  · rw [List.length_reverse] at hi
    obtain ⟨xs, sq, m⟩ := get e t
    have hj : ds.length - 1 - i < ds.length := by omega
    obtain ⟨v, h1, h2⟩ := m.get (List.getElem?_eq_getElem hj)
    obtain ⟨rfl, hx⟩ := y
    rw [hx xs sq] at h1
    cases h1
    exact ⟨F, _, by rw [rev_get hi]; exact List.getElem?_eq_getElem hj, Gr.refl e, h2⟩
section
variable {X : Cx} {tg e : Expr} {te : DE} {p pos : Pos}
theorem i_rev (hg : Gl X "reversed") (hm : X.mg "reversed" = none) (ha : PE X e (up X.K te)) (hs : starEach [e] X.env = (false, eval e X.env) :: starEach [] X.env := by rfl) : PI X tg (.Call (.Name "reversed" p) [e] [] pos) (upI X.K (dRev te)) :=
  pi_to (RT.pi_revA hg hm ha hs) fun σ H R q => by
  obtain ⟨c, g, tv, tr, F, a, post, s, t, k⟩ := q
  refine ⟨c, g, tv, tr, F, a, _, s, t, fun r g1 v H1 F1 a1 t1 s1 => ?_⟩
  cases r with
  | val d =>
    cases d with
    | list ds =>
      have hr : Rp X.K F1 v (.list ds) := s1.top
      cases hr with
      | lst sq m => exact ⟨_, _, rfl, .inl ⟨.inl (.inl (s1.eh _ _ sq)), k ds.reverse g1 H1 F1 a1 _ [_] [.val (.list ds)] t1 s1 rfl rfl (walkD_rev m.len)⟩⟩
    | tuple ds =>
      have hr : Rp X.K F1 v (.tuple ds) := s1.top
      cases hr with
      | tup sq m => exact ⟨_, _, rfl, .inr ⟨ex_t s1.eh sq, k ds.reverse g1 H1 F1 a1 _ [_] [.val (.tuple ds)] t1 s1 rfl rfl (walkD_revT m.len)⟩⟩
    | _ => exact t1.elim
  | _ => exact t1.elim
end
/-! ### hits -/
/-- the remainder of a * x lies between l and h -/
def Hit (a m l h x : Int) : Prop := l ≤ a * x % m ∧ a * x % m ≤ h
/-- the least int from 0 on that hits -/
def LM (a m l h : Int) : Option Int → Prop
  | some x => 0 ≤ x ∧ Hit a m l h x ∧ ∀ y, 0 ≤ y → Hit a m l h y → x ≤ y
  | none => ∀ y, 0 ≤ y → ¬Hit a m l h y
/-- rounded up -/
def upI' (n d : Int) : Int := -(-n / d)
theorem up_iff {n d x : Int} (hd : 0 < d) : upI' n d ≤ x ↔ n ≤ d * x := by
  unfold upI'
  have h1 := Int.ediv_mul_le (-n) (show d ≠ 0 by omega)
  have h2 := Int.lt_ediv_add_one_mul_self (-n) hd
  generalize -n / d = q at h1 h2 ⊢
  have e1 : (q + 1) * d = q * d + d := by grind
  rw [e1] at h2
  constructor
  · intro h
    have : (-q) * d ≤ x * d := Int.mul_le_mul_of_nonneg_right h (by omega)
    have e2 : (-q) * d = -(q * d) := by grind
    have e3 : x * d = d * x := by grind
    omega
  · intro h
    apply Int.not_lt.mp
    intro hc
    have : (x + 1) * d ≤ (-q) * d := Int.mul_le_mul_of_nonneg_right (by omega) (by omega)
    have e2 : (-q) * d = -(q * d) := by grind
    have e3 : (x + 1) * d = d * x + d := by grind
    omega
theorem up_lt {n d : Int} (hd : 0 < d) : d * (upI' n d - 1) < n ∧ n ≤ d * upI' n d := by
  refine ⟨?_, (up_iff hd).mp (Int.le_refl _)⟩
  apply Int.not_le.mp
  intro h
  have := (up_iff (x := upI' n d - 1) hd).mpr h
  omega
theorem up_eq {n d x : Int} (hd : 0 < d) (h1 : d * (x - 1) < n) (h2 : n ≤ d * x) : upI' n d = x := by
  have a := (up_iff hd).mpr h2
  have b : ¬upI' n d ≤ x - 1 := fun h => absurd ((up_iff hd).mp h) (by omega)
  omega
theorem mod_of {t q r m : Int} (h : t = m * q + r) (h0 : 0 ≤ r) (h1 : r < m) : t % m = r ∧ t / m = q := by
  have hm : 0 < m := by omega
  have e : t % m = r := by
    rw [h, Int.add_comm, Int.add_mul_emod_self_left, Int.emod_eq_of_lt h0 h1]
  refine ⟨e, ?_⟩
  have := Int.mul_ediv_add_emod t m
  rw [e] at this
  have h3 : m * (t / m) = m * q := by omega
  exact Int.eq_of_mul_eq_mul_left (by omega) h3
theorem hit_of {a m l h x y : Int} (h0 : 0 < l) (hm : h < m) (h1 : l ≤ a * x - m * y) (h2 : a * x - m * y ≤ h) : Hit a m l h x := by
  have := (mod_of (t := a * x) (q := y) (r := a * x - m * y) (m := m) (by omega) (by omega) (by omega)).1
  unfold Hit
  rw [this]
  exact ⟨h1, h2⟩
theorem hit_to {a m l h x : Int} (H : Hit a m l h x) : l ≤ a * x - m * (a * x / m) ∧ a * x - m * (a * x / m) ≤ h := by
  have := Int.mul_ediv_add_emod (a * x) m
  unfold Hit at H
  omega
/-- a multiple of the factor lies in the interval -/
theorem lm_found {a m l h : Int} (ha : 0 < a) (h0 : 0 < l) (hm : h < m) (hf : a * upI' l a ≤ h) : LM a m l h (some (upI' l a)) := by
  obtain ⟨u1, u2⟩ := up_lt (n := l) ha
  have x0 : 0 ≤ upI' l a := by
    apply Int.not_lt.mp
    intro hc
    have : a * upI' l a ≤ a * 0 := Int.mul_le_mul_of_nonneg_left (by omega) (by omega)
    omega
  refine ⟨x0, hit_of (y := 0) h0 hm (by omega) (by omega), fun y y0 hy => ?_⟩
  apply Int.not_lt.mp
  intro hc
  have e1 : a * y ≤ a * (upI' l a - 1) := Int.mul_le_mul_of_nonneg_left (by omega) (by omega)
  have e2 : 0 ≤ a * y := Int.mul_nonneg (by omega) y0
  have := hy.1
  rw [Int.emod_eq_of_lt e2 (by omega)] at this
  omega
theorem lm_zero {m l h : Int} (h0 : 0 < l) : LM 0 m l h none := fun y _ hy => by
  have := hy.1
  rw [Int.zero_mul, Int.zero_emod] at this
  omega
/-- no multiple lies in it: what is left for the smaller problem -/
theorem lm_step {a m l h : Int} (ha : 0 < a) (h0 : 0 < l) (hl : l ≤ h) (hm : h < m) (hf : h < a * upI' l a) :
    (0 < -h % a ∧ -h % a ≤ -l % a ∧ -l % a < a) ∧ (∀ r, LM (m % a) a (-h % a) (-l % a) r → LM a m l h (r.map fun y => upI' (l + m * y) a)) := by
  obtain ⟨u1, u2⟩ := up_lt (n := l) ha
  generalize hc : upI' l a = c at u1 u2 hf
  have e1 : a * (c - 1) = a * c - a := by grind
  rw [e1] at u1
  -- the interval, from the multiple above it
  have m1 : -l % a = a * c - l := (mod_of (q := -c) (by grind) (by omega) (by omega)).1
  have m2 : -h % a = a * c - h := (mod_of (q := -c) (by grind) (by omega) (by omega)).1
  rw [m1, m2]
  have b1 : 0 < a * c - h := by omega
  have b2 : a * c - h ≤ a * c - l := by omega
  have b3 : a * c - l < a := by omega
  refine ⟨⟨b1, b2, b3⟩, ?_⟩
  have hm' := Int.mul_ediv_add_emod m a
  generalize hq : m / a = q at hm'
  generalize hk : m % a = k at hm'
  have k0 : 0 ≤ k := by rw [← hk]; exact Int.emod_nonneg _ (by omega)
  -- from a hit of the smaller problem
  have up1 : ∀ y, 0 ≤ y → Hit k a (a * c - h) (a * c - l) y → ∃ x, 0 ≤ x ∧ l ≤ a * x - m * y ∧ a * x - m * y ≤ h := fun y y0 hy => by
    obtain ⟨t1, t2⟩ := hit_to hy
    generalize hu : k * y / a = u at t1 t2
    have u0 : 0 ≤ u := by rw [← hu]; exact Int.ediv_nonneg (Int.mul_nonneg k0 y0) (by omega)
    have q0 : 0 ≤ q := by rw [← hq]; exact Int.ediv_nonneg (by omega) (by omega)
    have c0 : 0 ≤ c := by
      apply Int.not_lt.mp
      intro hc
      have : a * c ≤ a * 0 := Int.mul_le_mul_of_nonneg_left (by omega) (by omega)
      omega
    have x0 : 0 ≤ q * y := Int.mul_nonneg q0 y0
    have ex : a * (u + q * y + c) - m * y = a * u + a * c - k * y := by rw [← hm']; grind
    exact ⟨u + q * y + c, by omega, by omega, by omega⟩
  have down : ∀ x y, l ≤ a * x - m * y → a * x - m * y ≤ h → Hit k a (a * c - h) (a * c - l) y := fun x y t1 t2 => by
    have ex : a * x - m * y = a * (x - q * y) - k * y := by rw [← hm']; grind
    have ez : k * y - a * (x - q * y - c) = k * y - a * (x - q * y) + a * c := by grind
    exact hit_of (y := x - q * y - c) b1 (by omega) (by omega) (by omega)
  intro r hr
  cases r with
  | none =>
    intro x x0 hx
    obtain ⟨t1, t2⟩ := hit_to hx
    by_cases hy : 0 ≤ a * x / m
    · exact hr _ hy (down _ _ t1 t2)
    · exact absurd (Int.ediv_nonneg (Int.mul_nonneg (Int.le_of_lt ha) x0) (by omega)) hy
  | some y =>
    obtain ⟨y0, hy, hmin⟩ := hr
    obtain ⟨x, x0, t1, t2⟩ := up1 y y0 hy
    have ee : upI' (l + m * y) a = x := by
      have e3 : a * (x - 1) = a * x - a := by grind
      exact up_eq ha (by omega) (by omega)
    show LM a m l h (some (upI' (l + m * y) a))
    rw [ee]
    refine ⟨x0, hit_of h0 hm t1 t2, fun x' x0' hx' => ?_⟩
    obtain ⟨s1, s2⟩ := hit_to hx'
    have y0' : 0 ≤ a * x' / m := Int.ediv_nonneg (Int.mul_nonneg (Int.le_of_lt ha) x0') (by omega)
    have hle := hmin _ y0' (down _ _ s1 s2)
    rw [← ee]
    rw [up_iff ha]
    have : m * y ≤ m * (a * x' / m) := Int.mul_le_mul_of_nonneg_left hle (by omega)
    omega
theorem lm_lt {a m l h x : Int} (hm : 0 < m) (H : LM a m l h (some x)) : x < m := by
  obtain ⟨x0, hx, hmin⟩ := H
  apply Int.not_le.mp
  intro hc
  have := hmin (x - m) (by omega) (by
    unfold Hit at hx ⊢
    have e : a * (x - m) = a * x + m * (-a) := by grind
    rw [e, Int.add_mul_emod_self_left]
    exact hx)
  omega
/-- the steps put aside -/
inductive Chn (A M L H : Int) : List (Int × Int × Int) → Int → Int → Int → Int → Prop
  | nil : Chn A M L H [] A M L H
  | snoc {os : List (Int × Int × Int)} {a m l h : Int} (c : Chn A M L H os a m l h) (ha : 0 < a) (hf : h < a * upI' l a) : Chn A M L H (os ++ [(a, m, l)]) (m % a) a (-h % a) (-l % a)
theorem Chn.ok {A M L H : Int} (hA : 0 ≤ A) (hAM : A < M) (hL : 0 < L) (hLH : L ≤ H) (hM : H < M) {os : List (Int × Int × Int)} {a m l h : Int} (c : Chn A M L H os a m l h) : 0 ≤ a ∧ a < m ∧ 0 < l ∧ l ≤ h ∧ h < m ∧ m ≤ M ∧ a * m * 2 ^ os.length ≤ A * M := by
  induction c with
  | nil => exact ⟨hA, hAM, hL, hLH, hM, Int.le_refl _, by simp⟩
  | snoc c ha hf ih =>
    rename_i os a m l h
    obtain ⟨i1, i2, i3, i4, i5, i6, i7⟩ := ih
    obtain ⟨⟨s1, s2, s3⟩, _⟩ := lm_step (m := m) ha i3 i4 i5 hf
    have r0 := Int.emod_nonneg m (show a ≠ 0 by omega)
    have r1 := Int.emod_lt_of_pos m ha
    refine ⟨r0, r1, s1, s2, s3, by omega, ?_⟩
    refine Int.le_trans ?_ i7
    rw [List.length_append, List.length_cons, List.length_nil, Int.pow_succ]
    have q1 := Int.mul_ediv_add_emod m a
    have q2 : 1 ≤ m / a := by
      have := (Int.le_ediv_iff_mul_le ha (a := 1) (b := m)).mpr (by omega)
      exact this
    have q3 : a * 1 ≤ a * (m / a) := Int.mul_le_mul_of_nonneg_left q2 (by omega)
    have q4 : 2 * (m % a) ≤ m := by omega
    have p := pow2_pos os.length
    have e : m % a * a * (2 ^ os.length * 2) = 2 * (m % a) * (a * 2 ^ os.length) := by grind
    have e2 : a * m * 2 ^ os.length = m * (a * 2 ^ os.length) := by grind
    rw [e, e2]
    exact Int.mul_le_mul_of_nonneg_right q4 (Int.mul_nonneg (by omega) (Int.le_of_lt p))
end Z

namespace Z
open L2 PySem PySem.Spec PyProof.Rows
/-! ### sums of floors -/
def sf (d a b : Int) : Nat → Int
  | 0 => 0
  | n + 1 => sf d a b n + (a * (n : Int) + b) / d
theorem tri (n : Nat) : ((n : Int) + 1) * (n : Int) / 2 = (n : Int) * ((n : Int) - 1) / 2 + n := by
  have e : ((n : Int) + 1) * n = (n : Int) * ((n : Int) - 1) + (n : Int) * 2 := by grind
  rw [e, Int.add_mul_ediv_right _ _ (by decide)]
theorem sf_red {d : Int} (hd : 0 < d) (a b : Int) : ∀ n : Nat, sf d a b n = (n : Int) * ((n : Int) - 1) / 2 * (a / d) + (n : Int) * (b / d) + sf d (a % d) (b % d) n
  | 0 => by simp [sf]
  | n + 1 => by
    have ih := sf_red hd a b n
    have h1 := Int.mul_ediv_add_emod a d
    have h2 := Int.mul_ediv_add_emod b d
    have e : (a * (n : Int) + b) / d = (a / d) * n + b / d + (a % d * (n : Int) + b % d) / d := by
      have : a * (n : Int) + b = (a % d * (n : Int) + b % d) + d * ((a / d) * n + b / d) := by
        generalize a / d = x at h1 ⊢
        generalize a % d = y at h1 ⊢
        generalize b / d = z at h2 ⊢
        generalize b % d = w at h2 ⊢
        subst h1; subst h2
        grind
      rw [this, Int.add_mul_ediv_left _ _ (by omega)]
      omega
    show sf d a b n + (a * (n : Int) + b) / d = _ * _ + _ * _ + (sf d (a % d) (b % d) n + (a % d * (n : Int) + b % d) / d)
    rw [ih, e]
    have ec : ((n + 1 : Nat) : Int) = (n : Int) + 1 := by omega
    rw [ec, show (n : Int) + 1 - 1 = n by omega, tri n]
    generalize (n : Int) * ((n : Int) - 1) / 2 = x
    generalize a / d = y
    generalize b / d = z
    grind
theorem sf_front (d a b : Int) : ∀ n : Nat, sf d a b (n + 1) = b / d + sf d a (b + a) n
  | 0 => by simp [sf]
  | n + 1 => by
    have ih := sf_front d a b n
    show sf d a b (n + 1) + (a * ((n + 1 : Nat) : Int) + b) / d = b / d + (sf d a (b + a) n + (a * (n : Int) + (b + a)) / d)
    rw [ih]
    have : a * ((n + 1 : Nat) : Int) + b = a * (n : Int) + (b + a) := by
      rw [show ((n + 1 : Nat) : Int) = (n : Int) + 1 by omega]; grind
    rw [this]
    omega
theorem sf_shift {d : Int} (hd : 0 < d) (a b : Int) : ∀ n : Nat, sf d a (b + d) n = n + sf d a b n
  | 0 => by simp [sf]
  | n + 1 => by
    have ih := sf_shift hd a b n
    show sf d a (b + d) n + (a * (n : Int) + (b + d)) / d = _ + (sf d a b n + (a * (n : Int) + b) / d)
    rw [ih, show a * (n : Int) + (b + d) = (a * (n : Int) + b) + d * 1 by omega, Int.add_mul_ediv_left _ _ (by omega)]
    omega
theorem sf_zero {d b : Int} (h0 : 0 ≤ b) (h : b < d) : ∀ n : Nat, sf d 0 b n = 0
  | 0 => rfl
  | n + 1 => by
    show sf d 0 b n + (0 * (n : Int) + b) / d = 0
    rw [sf_zero h0 h n, Int.zero_mul, Int.zero_add, Int.zero_add, Int.ediv_eq_zero_of_lt h0 h]
/-- the other way round -/
theorem sf_flip {d a b : Int} (hd : 0 < d) (a0 : 0 ≤ a) (a1 : a < d) (b0 : 0 ≤ b) (b1 : b < d) (n : Nat) : sf d a b n = sf a d ((a * n + b) % d) ((a * n + b) / d).toNat := by
  by_cases ha : a = 0
  · subst ha
    rw [sf_zero b0 b1, Int.zero_mul, Int.zero_add, Int.ediv_eq_zero_of_lt b0 b1]
    rfl
  have ha : 0 < a := by omega
  induction n with
  | zero =>
    show (0 : Int) = _
    rw [show a * ((0 : Nat) : Int) + b = b by simp, Int.ediv_eq_zero_of_lt b0 b1]
    rfl
  | succ n ih =>
    show sf d a b n + (a * (n : Int) + b) / d = _
    rw [ih]
    have t0 : 0 ≤ a * (n : Int) + b := Int.add_nonneg (Int.mul_nonneg a0 (by omega)) b0
    have et : a * ((n + 1 : Nat) : Int) + b = a * (n : Int) + b + a := by
      rw [show ((n + 1 : Nat) : Int) = (n : Int) + 1 by omega]; grind
    rw [et]
    generalize a * (n : Int) + b = t at t0
    have h1 := Int.mul_ediv_add_emod t d
    have r0 := Int.emod_nonneg t (show d ≠ 0 by omega)
    have r1 := Int.emod_lt_of_pos t hd
    have q0 : 0 ≤ t / d := Int.ediv_nonneg t0 (by omega)
    generalize t / d = q at h1 q0
    generalize t % d = r at h1 r0 r1
    obtain ⟨N, rfl⟩ := Int.eq_ofNat_of_zero_le q0
    by_cases hc : r + a < d
    · obtain ⟨m1, m2⟩ := mod_of (t := t + a) (q := (N : Int)) (r := r + a) (m := d) (by omega) (by omega) hc
      rw [m1, m2, Int.toNat_natCast, sf_shift ha]
      omega
    · obtain ⟨m1, m2⟩ := mod_of (t := t + a) (q := (N : Int) + 1) (r := r + a - d) (m := d) (by rw [← h1]; grind) (by omega) (by omega)
      rw [m1, m2, Int.toNat_natCast, show ((N : Int) + 1).toNat = N + 1 by omega, sf_front, show r + a - d + d = r + a by omega, sf_shift ha, Int.ediv_eq_zero_of_lt (by omega) (by omega)]
      omega
/-- how many hit -/
def cntH (f m lo hi st : Int) : Nat → Int
  | 0 => 0
  | n + 1 => cntH f m lo hi st n + (if lo ≤ f * (st + n) % m ∧ f * (st + n) % m ≤ hi then 1 else 0)
theorem hits_eq {f m lo hi : Int} (st : Int) (hm : 0 < m) (h0 : 0 ≤ lo) (h1 : lo ≤ hi) (h2 : hi < m) : ∀ n : Nat, sf m f (f * st + m - lo) n - sf m f (f * st + m - hi - 1) n = cntH f m lo hi st n
  | 0 => by simp [sf, cntH]
  | n + 1 => by
    have ih := hits_eq (f := f) st hm h0 h1 h2 n
    show sf m f _ n + (f * (n : Int) + (f * st + m - lo)) / m - (sf m f _ n + (f * (n : Int) + (f * st + m - hi - 1)) / m) = cntH f m lo hi st n + _
    have et : f * (n : Int) + f * st = f * (st + n) := by grind
    generalize ht : f * (st + n) = t at et
    have e1 := Int.mul_ediv_add_emod t m
    have r0 := Int.emod_nonneg t (show m ≠ 0 by omega)
    have r1 := Int.emod_lt_of_pos t hm
    generalize t / m = q at e1
    generalize t % m = r at e1 r0 r1 ⊢
    have eq1 : m * (q + 1) = m * q + m := by grind
    have a1 : (f * (n : Int) + (f * st + m - lo)) / m = q + (if lo ≤ r then 1 else 0) := by
      split
      · exact (mod_of (q := q + 1) (r := r - lo) (m := m) (by omega) (by omega) (by omega)).2
      · rw [Int.add_zero]
        exact (mod_of (q := q) (r := r + m - lo) (m := m) (by omega) (by omega) (by omega)).2
    have a2 : (f * (n : Int) + (f * st + m - hi - 1)) / m = q + (if hi < r then 1 else 0) := by
      split
      · exact (mod_of (q := q + 1) (r := r - hi - 1) (m := m) (by omega) (by omega) (by omega)).2
      · rw [Int.add_zero]
        exact (mod_of (q := q) (r := r + m - hi - 1) (m := m) (by omega) (by omega) (by omega)).2
    rw [a1, a2, ← ih]
    generalize sf m f (f * st + m - lo) n = x
    generalize sf m f (f * st + m - hi - 1) n = y
    by_cases c1 : lo ≤ r <;> by_cases c2 : hi < r
    · rw [if_pos c1, if_pos c2, if_neg (by omega)]; omega
    · rw [if_pos c1, if_neg c2, if_pos (by omega)]; omega
    · omega
    · rw [if_neg c1, if_neg c2, if_neg (by omega)]; omega
/-- the first hit of a range -/
def FH (f m lo hi st sp : Int) : Option Int → Prop
  | some x => st ≤ x ∧ x < sp ∧ Hit f m lo hi x ∧ ∀ y, st ≤ y → y < x → ¬Hit f m lo hi y
  | none => ∀ y, st ≤ y → y < sp → ¬Hit f m lo hi y
theorem hit_shift {f m lo hi st x : Int} (hm : 0 < m) (h0 : 0 ≤ lo) (h1 : lo ≤ hi) (h2 : hi < m) (hn : ¬(lo ≤ f * st % m ∧ f * st % m ≤ hi)) :
    Hit (f % m) m ((lo - f * st % m) % m) ((hi - f * st % m) % m) x ↔ Hit f m lo hi (st + x) := by
  unfold Hit
  have e0 : f % m * x % m = f * x % m := by rw [Int.mul_emod, Int.emod_emod_of_dvd _ (Int.dvd_refl m), ← Int.mul_emod]
  have e1 : f * (st + x) % m = (f * st % m + f * x % m) % m := by rw [show f * (st + x) = f * st + f * x by grind, Int.add_emod]
  rw [e0, e1]
  have a0 := Int.emod_nonneg (f * st) (show m ≠ 0 by omega)
  have a1 := Int.emod_lt_of_pos (f * st) hm
  have b0 := Int.emod_nonneg (f * x) (show m ≠ 0 by omega)
  have b1 := Int.emod_lt_of_pos (f * x) hm
  generalize f * st % m = a at a0 a1 hn ⊢
  generalize f * x % m = b at b0 b1 ⊢
  have es : (a + b) % m = if a + b < m then a + b else a + b - m := by
    split
    · exact Int.emod_eq_of_lt (by omega) (by omega)
    · exact (mod_of (q := 1) (by omega) (by omega) (by omega)).1
  by_cases hc : a < lo
  · rw [Int.emod_eq_of_lt (show 0 ≤ lo - a by omega) (by omega), Int.emod_eq_of_lt (show 0 ≤ hi - a by omega) (by omega), es]
    split <;> omega
  · have x1 : (lo - a) % m = lo - a + m := (mod_of (q := -1) (by omega) (by omega) (by omega)).1
    have x2 : (hi - a) % m = hi - a + m := (mod_of (q := -1) (by omega) (by omega) (by omega)).1
    rw [x1, x2, es]
    split <;> omega
theorem shift_ok {m lo hi a : Int} (hm : 0 < m) (h0 : 0 ≤ lo) (h1 : lo ≤ hi) (h2 : hi < m) (a0 : 0 ≤ a) (a1 : a < m) (hn : ¬(lo ≤ a ∧ a ≤ hi)) : 0 < (lo - a) % m ∧ (lo - a) % m ≤ (hi - a) % m ∧ (hi - a) % m < m := by
  refine ⟨?_, ?_, Int.emod_lt_of_pos _ hm⟩ <;> by_cases hc : a < lo
  · rw [Int.emod_eq_of_lt (show 0 ≤ lo - a by omega) (by omega)]; omega
  · rw [(mod_of (t := lo - a) (q := -1) (r := lo - a + m) (m := m) (by omega) (by omega) (by omega)).1]; omega
  · rw [Int.emod_eq_of_lt (show 0 ≤ lo - a by omega) (by omega), Int.emod_eq_of_lt (show 0 ≤ hi - a by omega) (by omega)]; omega
  · rw [(mod_of (t := lo - a) (q := -1) (r := lo - a + m) (m := m) (by omega) (by omega) (by omega)).1, (mod_of (t := hi - a) (q := -1) (r := hi - a + m) (m := m) (by omega) (by omega) (by omega)).1]; omega
theorem fh_of {f m lo hi st sp : Int} (hm : 0 < m) (h0 : 0 ≤ lo) (h1 : lo ≤ hi) (h2 : hi < m) (hn : ¬(lo ≤ f * st % m ∧ f * st % m ≤ hi)) {r : Option Int} (hr : LM (f % m) m ((lo - f * st % m) % m) ((hi - f * st % m) % m) r) :
    FH f m lo hi st sp (r.bind fun x => if st + x ≥ sp then none else some (st + x)) := by
  cases r with
  | none =>
    intro y y0 _ hy
    refine hr (y - st) (by omega) ((hit_shift hm h0 h1 h2 hn).mpr ?_)
    rw [show st + (y - st) = y by omega]
    exact hy
  | some x =>
    obtain ⟨x0, hx, hmin⟩ := hr
    have hx' := (hit_shift hm h0 h1 h2 hn).mp hx
    have hm' : ∀ y, st ≤ y → Hit f m lo hi y → st + x ≤ y := fun y y0 hy => by
      have := hmin (y - st) (by omega) ((hit_shift hm h0 h1 h2 hn).mpr (by rw [show st + (y - st) = y by omega]; exact hy))
      omega
    show FH f m lo hi st sp (if st + x ≥ sp then none else some (st + x))
    split
    · intro y y0 y1 hy
      have := hm' y y0 hy
      omega
    · exact ⟨by omega, by omega, hx', fun y y0 y1 hy => by have := hm' y y0 hy; omega⟩
theorem fh_now {f m lo hi st sp : Int} (h : lo ≤ f * st % m ∧ f * st % m ≤ hi) : FH f m lo hi st sp (if st < sp then some st else none) := by
  split
  · exact ⟨Int.le_refl _, by omega, h, fun y y0 y1 _ => by omega⟩
  · exact fun y y0 y1 _ => by omega
def optD : Option Int → Da
  | some x => .int x
  | none => .none
end Z

namespace Z
open L2 PySem PySem.Spec PyProof.Rows
/-! ### comprehensions that draw, comprehensions that pick -/
theorem lc_fuel {sl : List (Option Sv)} {i : Nat} {te : DE} (f : Da → Da) (c : Nat) {Q : List Da → Option Nat → Prop} {fu : Nat} : ∀ {ds acc : List Da} {k : Nat}, k = fu + c * ds.length →
    (∀ x ∈ ds, ∀ (m : Nat) (R : Rv → Gs → Prop), (∀ g3 : Gs, g3.fu = some m → R (.val (f x)) g3) → te (Gs.set ⟨sl, some (m + c), false⟩ i (.val x)) R) → acc.length + ds.length ≤ 1000000 → Q (acc ++ ds.map f) (some fu) → lcD sl (dN i) dYes te ds acc (some k) Q
  | [], acc, k, hk, _, _, h => by
    rw [List.map_nil, List.append_nil] at h
    have : k = fu := by simpa using hk
    rw [this]
    exact h
  | x :: xs, acc, k, hk, hs, hl, h => by
    have e : k = (fu + c * xs.length) + c := by rw [hk, List.length_cons, Nat.mul_succ]; omega
    rw [e]
    refine ⟨fun _ => hs x List.mem_cons_self _ _ fun g3 e3 => ⟨?_, ?_⟩, fun z => nomatch z⟩
    · rw [List.length_cons] at hl; omega
    · rw [e3]
      refine lc_fuel f c rfl (fun y hy => hs y (List.mem_cons_of_mem _ hy)) ?_ ?_
      · rw [List.length_cons] at hl
        rw [List.length_append, List.length_cons, List.length_nil]
        omega
      · rw [List.append_assoc]
        exact h
theorem lc_filter {sl : List (Option Sv)} {i : Nat} {tt : DT} {te : DE} (p : Da → Bool) (f : Da → Da) {Q : List Da → Option Nat → Prop} {fu : Option Nat} : ∀ {ds acc : List Da},
    (∀ x ∈ ds, ∀ R : Bool → Gs → Prop, R (p x) (Gs.set ⟨sl, fu, false⟩ i (.val x)) → tt (Gs.set ⟨sl, fu, false⟩ i (.val x)) R) →
    (∀ x ∈ ds, p x = true → ∀ R : Rv → Gs → Prop, (∀ g3 : Gs, g3.fu = fu → R (.val (f x)) g3) → te (Gs.set ⟨sl, fu, false⟩ i (.val x)) R) → acc.length + ds.length ≤ 1000000 → Q (acc ++ (ds.filter p).map f) fu → lcD sl (dN i) tt te ds acc fu Q
  | [], acc, _, _, _, h => by rw [List.filter_nil, List.map_nil, List.append_nil] at h; exact h
  | x :: xs, acc, ht, hs, hl, h => by
    show tt (Gs.set ⟨sl, fu, false⟩ i (.val x)) _
    refine ht x List.mem_cons_self _ ⟨fun hp => hs x List.mem_cons_self hp _ fun g3 e => ⟨?_, ?_⟩, fun hp => ?_⟩
    · rw [List.length_cons] at hl; omega
    · rw [e, fuN_self]
      refine lc_filter p f (fun y hy => ht y (List.mem_cons_of_mem _ hy)) (fun y hy => hs y (List.mem_cons_of_mem _ hy)) ?_ ?_
      · rw [List.length_cons] at hl
        rw [List.length_append, List.length_cons, List.length_nil]
        omega
      · rw [List.filter_cons_of_pos hp, List.map_cons] at h
        rw [List.append_assoc]
        exact h
    · have e : (Gs.set ⟨sl, fu, false⟩ i (.val x)).fu = fu := rfl
      rw [e, fuN_self]
      refine lc_filter p f (fun y hy => ht y (List.mem_cons_of_mem _ hy)) (fun y hy => hs y (List.mem_cons_of_mem _ hy)) ?_ ?_
      · rw [List.length_cons] at hl; omega
      · rw [List.filter_cons_of_neg (by rw [hp]; decide)] at h
        exact h
/-! ### hits by search -/
def hitP (f m lo hi : Int) : Da → Bool
  | .int x => decide (lo ≤ f * x % m ∧ f * x % m ≤ hi)
  | _ => false
theorem rangeD_succ (lo : Int) (n : Nat) : rangeD lo (n + 1) = rangeD lo n ++ [.int (lo + n)] := by
  unfold rangeD
  rw [List.range_succ, List.map_append]
  rfl
theorem cnt_len (f m lo hi st : Int) : ∀ n : Nat, (((rangeD st n).filter (hitP f m lo hi)).length : Int) = cntH f m lo hi st n
  | 0 => rfl
  | n + 1 => by
    have ih := cnt_len f m lo hi st n
    rw [rangeD_succ, List.filter_append, List.length_append]
    show _ = cntH f m lo hi st n + (if lo ≤ f * (st + n) % m ∧ f * (st + n) % m ≤ hi then 1 else 0)
    rw [← ih]
    by_cases h : lo ≤ f * (st + n) % m ∧ f * (st + n) % m ≤ hi
    · rw [if_pos h, List.filter_cons_of_pos (show hitP f m lo hi (.int (st + n)) = true from decide_eq_true h)]
      simp
    · rw [if_neg h, List.filter_cons_of_neg (show ¬hitP f m lo hi (.int (st + n)) = true from fun z => h (of_decide_eq_true z))]
      simp
def headD : List Da → Da
  | [] => .none
  | x :: _ => x
theorem search (f m lo hi st : Int) : ∀ n : Nat, ((rangeD st n).filter (hitP f m lo hi) = [] ∧ ∀ y, st ≤ y → y < st + n → ¬Hit f m lo hi y) ∨
    ∃ z r, (rangeD st n).filter (hitP f m lo hi) = .int z :: r ∧ st ≤ z ∧ z < st + n ∧ Hit f m lo hi z ∧ ∀ y, st ≤ y → y < z → ¬Hit f m lo hi y
  | 0 => .inl ⟨rfl, fun y h1 h2 => by omega⟩
  | n + 1 => by
    rw [rangeD_succ, List.filter_append]
    rcases search f m lo hi st n with ⟨e, h⟩ | ⟨z, r, e, h1, h2, h3, h4⟩
    · rw [e, List.nil_append]
      by_cases hc : lo ≤ f * (st + n) % m ∧ f * (st + n) % m ≤ hi
      · refine .inr ⟨st + n, [], ?_, by omega, by omega, hc, fun y y0 y1 => h y y0 y1⟩
        rw [List.filter_cons_of_pos (show hitP f m lo hi (.int (st + n)) = true from decide_eq_true hc)]
        rfl
      · refine .inl ⟨?_, fun y y0 y1 => ?_⟩
        · rw [List.filter_cons_of_neg (show ¬hitP f m lo hi (.int (st + n)) = true from fun z => hc (of_decide_eq_true z))]
          rfl
        · by_cases hy : y = st + n
          · subst hy; exact hc
          · exact h y y0 (by omega)
    · exact .inr ⟨z, r ++ _, by rw [e]; rfl, h1, by omega, h3, h4⟩
/-- what the program finds is what a search finds -/
theorem fh_search {f m lo hi st sp : Int} {r : Option Int} (h : FH f m lo hi st sp r) : optD r = headD ((rangeD st (sp - st).toNat).filter (hitP f m lo hi)) := by
  rcases search f m lo hi st (sp - st).toNat with ⟨e, hn⟩ | ⟨z, q, e, h1, h2, h3, h4⟩
  · rw [e]
    cases r with
    | none => rfl
    | some x => exact absurd h.2.2.1 (hn x h.1 (by have := h.1; have := h.2.1; omega))
  · rw [e]
    cases r with
    | none => exact absurd h3 (h z h1 (by omega))
    | some x =>
      have a : ¬z < x := fun c => h.2.2.2 z h1 c h3
      have b : ¬x < z := fun c => h4 x h.1 c h.2.2.1
      show PyData.int x = .int z
      rw [show x = z by omega]
theorem ints_lay : ∀ ds : List Da, (∀ x ∈ ds, ∃ i : Int, x = .int i) → PyData.canLayAll0 ds = true ∧ PyData.depthAll ds = 0
  | [], _ => ⟨rfl, rfl⟩
  | x :: xs, h => by
    obtain ⟨i, rfl⟩ := h x List.mem_cons_self
    obtain ⟨h1, h2⟩ := ints_lay xs fun y hy => h y (List.mem_cons_of_mem _ hy)
    simp [PyData.canLayAll0, PyData.depthAll, PyData.canLay0, PyData.depth, h1, h2]
theorem shaped_ints {ds : List Da} (h : ∀ x ∈ ds, ∃ i : Int, x = .int i) : SeqAt.shaped (.list ds) = true := by
  obtain ⟨h1, h2⟩ := ints_lay ds h
  simp [SeqAt.shaped, PyData.canLay0, PyData.depth, h1, h2]
theorem eqv_nil (ds : List Da) : (PyData.list ds).eqv (.list []) = ds.isEmpty := by
  cases ds <;> simp [PyData.eqv, PyData.eqvAll]
end Z

namespace Z
open L2 PySem PySem.Spec PyProof.Rows
open Evl (Ex ex_l ex_t ex_rd fresh_back)
/-! ### sum, min, max, sorted of ints; list(..) -/
def intsD : List Da → Option (List Int)
  | [] => some []
  | .int i :: ds => (intsD ds).map (i :: ·)
  | _ => none
theorem ints_v {K : Fg} {F : Hp} : ∀ {vs : List V} {ds : List Da} {ns : List Int}, Rps K F vs ds → intsD ds = some ns → vs = ns.map V.int
  | _, _, _, .nil, h => by cases h; rfl
  | _, d :: ds, ns, .cons r t, h => by
    cases d with
    | int i =>
      unfold intsD at h
      cases q : intsD ds with
      | none => rw [q] at h; cases h
      | some cs =>
        rw [q] at h
        cases h
        cases r
        rw [ints_v t q]
        rfl
    | _ => cases h
theorem intsD_map (ns : List Int) : intsD (ns.map PyData.int) = some ns := by
  induction ns with
  | nil => rfl
  | cons n ns ih => simp [intsD, ih]
theorem ints_rp {K : Fg} {F : Hp} : ∀ ns : List Int, Rps K F (ns.map V.int) (ns.map PyData.int)
  | [] => .nil
  | n :: ns => .cons (.int n) (ints_rp ns)
def cSum : CF := fun rs post => match rs with
  | [.val (.list ds)] => (match intsD ds with | some ns => post (.int ns.sum) | none => False)
  | _ => False
def cMinL : CF := fun rs post => match rs with
  | [.val (.list ds)] => (match intsD ds with | some ns => 0 < ns.length ∧ ∀ m, m ∈ ns → (∀ y, y ∈ ns → m ≤ y) → post (.int m) | none => False)
  | _ => False
def cMaxL : CF := fun rs post => match rs with
  | [.val (.list ds)] => (match intsD ds with | some ns => 0 < ns.length ∧ ∀ m, m ∈ ns → (∀ y, y ∈ ns → y ≤ m) → post (.int m) | none => False)
  | _ => False
def cSorted : CF := fun rs post => match rs with
  | [.val (.list ds)] => (match intsD ds with | some ns => ns.length < 64 ∧ ∀ ns' : List Int, ns'.Perm ns → ns'.Pairwise (· ≤ ·) → post (.list (ns'.map PyData.int)) | none => False)
  | _ => False
def cList : CF := fun rs post => match rs with
  | [.val (.list ds)] => post (.list ds)
  | [.val (.tuple ds)] => post (.list ds)
  | _ => False
section
variable {K : Fg}
theorem ok_sum : CallOk K (rSum K) cSum := fun F H a fu vs rs post Q e t hf k => by
  unfold cSum at hf
  split at hf
  · rename_i ds
    split at hf
    · rename_i ns q
      obtain ⟨v, rfl, r⟩ := t.v1
      cases r with
      | lst sq m =>
        rw [ints_v m q] at sq
        exact ⟨_, ns, rfl, .inl (.inl (e _ _ sq)), k _ _ H F hf (Gr.refl e) (.int _)⟩
    · exact hf.elim
  · exact hf.elim
theorem ok_minL : CallOk K (rMin K) cMinL := fun F H a fu vs rs post Q e t hf k => by
  unfold cMinL at hf
  split at hf
  · rename_i ds
    split at hf
    · rename_i ns q
      obtain ⟨v, rfl, r⟩ := t.v1
      cases r with
      | lst sq m =>
        rw [ints_v m q] at sq
        exact ⟨_, ns, rfl, .inl (.inl (e _ _ sq)), hf.1, fun m h1 h2 => k _ _ H F (hf.2 m h1 h2) (Gr.refl e) (.int _)⟩
    · exact hf.elim
  · exact hf.elim
theorem ok_maxL : CallOk K (rMax K) cMaxL := fun F H a fu vs rs post Q e t hf k => by
  unfold cMaxL at hf
  split at hf
  · rename_i ds
    split at hf
    · rename_i ns q
      obtain ⟨v, rfl, r⟩ := t.v1
      cases r with
      | lst sq m =>
        rw [ints_v m q] at sq
        exact ⟨_, ns, rfl, .inl (.inl (e _ _ sq)), hf.1, fun m h1 h2 => k _ _ H F (hf.2 m h1 h2) (Gr.refl e) (.int _)⟩
    · exact hf.elim
  · exact hf.elim
theorem ok_sorted : CallOk K (rSorted K) cSorted := fun F H a fu vs rs post Q e t hf k => by
  unfold cSorted at hf
  split at hf
  · rename_i ds
    split at hf
    · rename_i ns q
      obtain ⟨v, rfl, r⟩ := t.v1
      cases r with
      | lst sq m =>
        rw [ints_v m q] at sq
        refine ⟨_, ns, rfl, .inl (.inl (e _ _ sq)), hf.1, fun ns' p h1 h2 hp => ?_⟩
        have gr := Gr.new (o := .lst (ns'.map V.int)) e hp
        exact k _ _ _ _ (hf.2 ns' h1 h2) gr (.lst upd_same (ints_rp ns'))
    · exact hf.elim
  · exact hf.elim
theorem ok_list : CallOk K (fun xs H Q => ∃ p ys, xs = [V.ref p] ∧ (SqL K H p ys ∨ SqT K H p ys) ∧ ∀ l, H l = none → Q (.ref l) (upd H l (.lst ys))) cList := fun F H a fu vs rs post Q e t hf k => by
  unfold cList at hf
  split at hf
  · rename_i ds
    obtain ⟨v, rfl, r⟩ := t.v1
    cases r with
    | lst sq m =>
      rename_i pp xs
      refine ⟨_, _, rfl, .inl (.inl (.inl (e _ _ sq))), fun l hl => ?_⟩
      have gr := Gr.new (o := .lst xs) e hl
      exact k _ _ _ _ hf gr (.lst upd_same (m.up gr.f))
  · rename_i ds
    obtain ⟨v, rfl, r⟩ := t.v1
    cases r with
    | tup sq m =>
      rename_i pp xs
      refine ⟨_, _, rfl, .inr (ex_t e sq), fun l hl => ?_⟩
      have gr := Gr.new (o := .lst xs) e hl
      exact k _ _ _ _ hf gr (.lst upd_same (m.up gr.f))
  · exact hf.elim
end
section
variable {X : Cx} {p pos : Pos} {e : Expr} {tr : DA}
theorem e_sum (hc : X.calm = true) (hg : Gl X "sum") (hm : X.mg "sum" = none) (ha : PA X [e] (upA X.K tr)) (he : starEach [e] X.env = (false, eval e X.env) :: starEach [] X.env := by rfl) : PE X (.Call (.Name "sum" p) [e] [] pos) (up X.K (dCB cSum tr)) := e_callB (cr_sum hc) ok_sum hg hm (by decide +kernel) ha (by decide) (by decide) he rfl
theorem e_minL (hc : X.calm = true) (hg : Gl X "min") (hm : X.mg "min" = none) (ha : PA X [e] (upA X.K tr)) (he : starEach [e] X.env = (false, eval e X.env) :: starEach [] X.env := by rfl) : PE X (.Call (.Name "min" p) [e] [] pos) (up X.K (dCB cMinL tr)) := e_callB (cr_min hc) ok_minL hg hm (by decide +kernel) ha (by decide) (by decide) he rfl
theorem e_maxL (hc : X.calm = true) (hg : Gl X "max") (hm : X.mg "max" = none) (ha : PA X [e] (upA X.K tr)) (he : starEach [e] X.env = (false, eval e X.env) :: starEach [] X.env := by rfl) : PE X (.Call (.Name "max" p) [e] [] pos) (up X.K (dCB cMaxL tr)) := e_callB (cr_max hc) ok_maxL hg hm (by decide +kernel) ha (by decide) (by decide) he rfl
theorem e_sorted (hg : Gl X "sorted") (hm : X.mg "sorted" = none) (ha : PA X [e] (upA X.K tr)) (he : starEach [e] X.env = (false, eval e X.env) :: starEach [] X.env := by rfl) : PE X (.Call (.Name "sorted" p) [e] [] pos) (up X.K (dCB cSorted tr)) := e_callB cr_sorted ok_sorted hg hm (by decide +kernel) ha (by decide) (by decide) he rfl
theorem e_list (hg : Gl X "list") (hm : X.mg "list" = none) (ha : PA X [e] (upA X.K tr)) (he : starEach [e] X.env = (false, eval e X.env) :: starEach [] X.env := by rfl) : PE X (.Call (.Name "list" p) [e] [] pos) (up X.K (dCB cList tr)) := e_callTy call_list_of ok_list hg hm (by decide +kernel) ha (by decide) (by decide) he rfl
end
end Z

namespace Z
open L2 PySem PySem.Spec PyProof.Rows
open Evl (Ex ex_l ex_t ex_rd fresh_back)
/-! ### list(range(..)) -/
def dListR (te : DE) : DE := fun g Q => te g fun r g1 => match r with
  | .val (.int j) => (0 ≤ j ∧ j ≤ 16777216) ∧ Q (.val (.list (rangeD 0 j.toNat))) g1
  | _ => False
theorem rg_rp {K : Fg} {F : Hp} (lo : Int) : ∀ ns : List Nat, Rps K F (ns.map fun i => V.int (lo + (i : Nat))) (ns.map fun i => PyData.int (lo + (i : Nat)))
  | [] => .nil
  | n :: ns => .cons (.int _) (rg_rp lo ns)
section
variable {X : Cx} {a : Expr} {te : DE} {p p2 pos pos2 : Pos}
theorem e_listR (hc : X.calm = true) (hg : Gl X "list") (hm : X.mg "list" = none) (hg2 : Gl X "range") (hm2 : X.mg "range" = none) (ha : PE X a (up X.K te)) (n1 : starEach [a] X.env = (false, eval a X.env) :: starEach [] X.env := by rfl)
    (n2 : starEach [.Call (.Name "range" p2) [a] [] pos2] X.env = (false, eval (.Call (.Name "range" p2) [a] [] pos2) X.env) :: starEach [] X.env := by rfl) : PE X (.Call (.Name "list" p) [.Call (.Name "range" p2) [a] [] pos2] [] pos) (up X.K (dListR te)) :=
  pe_to (pe_listRg hc hg hm (prg_1 hg2 hm2 ha n1) n2) fun σ H Q q => by
  obtain ⟨c, g, tv, tr, F, ad, post, s, t, k⟩ := q
  refine ⟨c, g, tv, tr, F, ad, _, s, t, fun r g1 v H1 F1 a1 t1 s1 => ?_⟩
  cases r with
  | val d =>
    cases d with
    | int j =>
      have hr : Rp X.K F1 v (.int j) := s1.top
      cases hr
      obtain ⟨⟨j0, j1⟩, t1⟩ := t1
      refine ⟨j, rfl, RgOk.of_le (by decide) j1 (by decide) j0, fun q hq => ?_⟩
      have gr := Gr.new (o := .lst (rgV 0 j)) s1.eh hq
      refine k _ g1 _ _ _ a1 t1 ((s1.pop1.grow gr).push (r := .val (.list (rangeD 0 j.toNat))) (.lst upd_same ?_))
      unfold rgV rangeD
      rw [Int.sub_zero]
      exact rg_rp 0 _
    | _ => exact t1.elim
  | _ => exact t1.elim
end
/-- a comprehension that draws c times each turn; each element is one of those allowed -/
theorem lc_draw {sl : List (Option Sv)} {i : Nat} {te : DE} (P : Da → Prop) (c : Nat) {Q : List Da → Option Nat → Prop} {fu : Nat} : ∀ {ds acc : List Da} {k : Nat}, k = fu + c * ds.length →
    (∀ x ∈ ds, ∀ (m : Nat) (R : Rv → Gs → Prop), (∀ (z : Da) (g3 : Gs), P z → g3.fu = some m → R (.val z) g3) → te (Gs.set ⟨sl, some (m + c), false⟩ i (.val x)) R) → acc.length + ds.length ≤ 1000000 →
    (∀ zs : List Da, zs.length = ds.length → (∀ z ∈ zs, P z) → Q (acc ++ zs) (some fu)) → lcD sl (dN i) dYes te ds acc (some k) Q
  | [], acc, k, hk, _, _, h => by
    have : k = fu := by simpa using hk
    rw [this]
    have := h [] rfl (fun z hz => by simp at hz)
    rw [List.append_nil] at this
    exact this
  | x :: xs, acc, k, hk, hs, hl, h => by
    have e : k = (fu + c * xs.length) + c := by rw [hk, List.length_cons, Nat.mul_succ]; omega
    rw [e]
    refine ⟨fun _ => hs x List.mem_cons_self _ _ fun z g3 hz e3 => ⟨?_, ?_⟩, fun z => nomatch z⟩
    · rw [List.length_cons] at hl; omega
    · rw [e3]
      refine lc_draw P c rfl (fun y hy => hs y (List.mem_cons_of_mem _ hy)) ?_ fun zs h1 h2 => ?_
      · rw [List.length_cons] at hl
        rw [List.length_append, List.length_cons, List.length_nil]
        omega
      · rw [List.append_assoc]
        refine h (z :: zs) (by simp [h1]) fun y hy => ?_
        rcases List.mem_cons.mp hy with rfl | hy
        · exact hz
        · exact h2 y hy
end Z

namespace Z
open L2 PySem PySem.Spec PyProof.Rows
open Evl (Ex ex_l ex_t ex_rd fresh_back)
/-! ### slices -/
abbrev DO := Gs → (Option Int → Gs → Prop) → Prop
def oNo : DO := fun g Q => Q none g
def oSo (te : DE) : DO := fun g Q => te g fun r g1 => match r with
  | .val (.int i) => Q (some i) g1
  | _ => False
def upO (K : Fg) (t : DO) : TO := fun σ H Q => ∃ c g tv tr F a post, Sta K c g σ H tv tr F a ∧ t g post ∧
  ∀ o g' H' F' a', post o g' → Sta K c g' σ H' tv tr F' a' → Q o H'
def cutD (ds : List Da) (lo hi : Option Int) : List Da := (ds.drop (HT.sIx ds.length 0 lo)).take (HT.sIx ds.length ds.length hi - HT.sIx ds.length 0 lo)
def dSl (ta : DE) (tl th : DO) : DE := fun g Q => ta g fun x g1 => tl g1 fun lo g2 => th g2 fun hi g3 => match x with
  | .val (.list ds) => Q (.val (.list (cutD ds lo hi))) g3
  | .val (.tuple ds) => ¬(HT.sIx ds.length 0 lo = 0 ∧ HT.sIx ds.length ds.length hi = ds.length) ∧ Q (.val (.tuple (cutD ds lo hi))) g3
  | _ => False
theorem Rps.drop {K : Fg} {F : Hp} : ∀ {vs : List V} {ds : List Da} (n : Nat), Rps K F vs ds → Rps K F (vs.drop n) (ds.drop n)
  | _, _, 0, h => h
  | _, _, n + 1, .nil => .nil
  | _, _, n + 1, .cons _ t => Rps.drop n t
theorem Rps.take {K : Fg} {F : Hp} : ∀ {vs : List V} {ds : List Da} (n : Nat), Rps K F vs ds → Rps K F (vs.take n) (ds.take n)
  | _, _, 0, _ => .nil
  | _, _, n + 1, .nil => .nil
  | _, _, n + 1, .cons r t => .cons r (Rps.take n t)
theorem Rps.cut {K : Fg} {F : Hp} {vs : List V} {ds : List Da} (h : Rps K F vs ds) (lo hi : Option Int) : Rps K F (cutV vs lo hi) (cutD ds lo hi) := by
  unfold cutV cutD
  rw [h.len]
  exact (h.drop _).take _
section
variable {X : Cx} {e : Expr} {te : DE}
theorem po_to {o : Option Expr} {t t' : TO} (h : PO X o t) (i : ∀ σ H Q, t' σ H Q → t σ H Q) : PO X o t' := ⟨fun pins s σ H Q I q => h.run pins s σ H Q I (i σ H Q q)⟩
theorem o_none : PO X none (upO X.K oNo) := po_to po_none fun σ H Q q => by
  obtain ⟨c, g, tv, tr, F, ad, post, s, t, k⟩ := q
  exact k none g H F ad t s
theorem o_some (h : PE X e (up X.K te)) : PO X (some e) (upO X.K (oSo te)) := po_to (po_some h) fun σ H Q q => by
  obtain ⟨c, g, tv, tr, F, ad, post, s, t, k⟩ := q
  refine ⟨c, g, tv, tr, F, ad, _, s, t, fun r g1 v H1 F1 a1 t1 s1 => ?_⟩
  cases r with
  | val d =>
    cases d with
    | int i =>
      have hr : Rp X.K F1 v (.int i) := s1.top
      cases hr
      exact ⟨i, rfl, k _ g1 H1 F1 a1 t1 s1.pop1⟩
    | _ => exact t1.elim
  | _ => exact t1.elim
variable {lo hi : Option Expr} {tl th : DO} {ta : DE} {a : Expr} {p2 pos : Pos}
theorem e_sl (ha : PE X a (up X.K ta)) (hl : PO X lo (upO X.K tl)) (hu : PO X hi (upO X.K th)) : PE X (.Subscript a (.Slice lo hi none p2) pos) (up X.K (dSl ta tl th)) := pe_to (pe_slice (sl_list.or sl_tup) ha hl hu) fun σ H Q q => by
  obtain ⟨c, g, tv, tr, F, ad, post, s, t, k⟩ := q
  refine ⟨c, g, tv, tr, F, ad, _, s, t, fun x g1 v1 H1 F1 a1 t1 s1 => ?_⟩
  refine ⟨c, g1, _, _, F1, a1, _, s1, t1, fun l g2 H2 F2 a2 t2 s2 => ?_⟩
  refine ⟨c, g2, _, _, F2, a2, _, s2, t2, fun u g3 H3 F3 a3 t3 s3 => ?_⟩
  cases x with
  | val d =>
    cases d with
    | list ds =>
      have hr : Rp X.K F3 v1 (.list ds) := s3.top
      cases hr with
      | lst sq m =>
        rename_i pp xs
        refine .inl ⟨_, _, rfl, .inl (.inl (s3.eh _ _ sq)), fun q hq => ?_⟩
        have gr := Gr.new (o := .lst (cutV xs l u)) s3.eh hq
        exact k _ g3 _ _ _ a3 t3 ((s3.pop1.grow gr).push (r := .val (.list (cutD ds l u))) (.lst upd_same ((m.cut l u).up gr.f)))
    | tuple ds =>
      have hr : Rp X.K F3 v1 (.tuple ds) := s3.top
      cases hr with
      | tup sq m =>
        rename_i pp xs
        refine .inr ⟨_, _, rfl, ex_t s3.eh sq, by rw [m.len]; exact t3.1, fun q hq => ?_⟩
        have gr := Gr.new (o := .tup (cutV xs l u)) s3.eh hq
        exact k _ g3 _ _ _ a3 t3.2 ((s3.pop1.grow gr).push (r := .val (.tuple (cutD ds l u))) (.tup (.inl (.inl upd_same)) ((m.cut l u).up gr.f)))
    | _ => exact t3.elim
  | _ => exact t3.elim
end
end Z

namespace Z
open L2 PySem PySem.Spec PyProof.Rows
open Evl (Ex ex_l ex_t ex_rd fresh_back)
/-! ### a written dict with the six rules as keys -/
def dBy (tab : Ru → Da) (te : DE) : DE := fun g Q => te g fun r g1 => match r with
  | .val (.str x) => ∃ ru : Ru, x = ru.s ∧ Q (.val (tab ru)) g1
  | _ => False
section
variable {X : Cx} {b : Expr} {te : DE} {p pos : Pos} {x : Str}
theorem e_by {ra : Addr} {tab : Ru → Da} (hg : Gl X x) (hm : X.mg x = some (.ref ra)) (hk : ∀ ru : Ru, ∃ v, KDct X.K X.w ra ru.s v ∧ ∀ F, Rp X.K F v (tab ru)) (hb : PE X b (up X.K te)) (hd : (x == ("__debug__" : Str)) = false := by decide) (hs : PlainIx b := by exact fun _ _ => rfl) :
    PE X (.Subscript (.Name x p) b pos) (up X.K (dBy tab te)) := pe_to (pe_ix ix_kdict (pe_glob hg hm (show RelV (.ref ra) (.ref ra) from rfl) hd) hb hs) fun σ H Q q => by
  obtain ⟨c, g, tv, tr, F, ad, post, s, t, k⟩ := q
  refine ⟨c, g, tv, tr, F, ad, _, s, t, fun r g1 v1 H1 F1 a1 t1 s1 => ?_⟩
  cases r with
  | val d =>
    cases d with
    | str z =>
      have hr : Rp X.K F1 v1 (.str z) := s1.top
      cases hr
      obtain ⟨ru, rfl, t1⟩ := t1
      obtain ⟨v, h1, h2⟩ := hk ru
      exact ⟨ra, ru.s, v, rfl, rfl, h1, k _ g1 v H1 F1 a1 t1 (s1.pop1.push (r := .val (tab ru)) (h2 F1))⟩
    | _ => exact t1.elim
  | _ => exact t1.elim
end
end Z

namespace Z
open L2 PySem PySem.Spec PyProof.Rows
/-! ### what the top holds: dicts by rule, nested tuples -/
theorem kdct_of {K : Fg} {w : World} {a : Addr} {ks : List Str} {x : Str} {u : Value} {v : V} (h : He.dicW K a = some (He.keysIn w.params ks)) (hx : PySem.W.nsIn K a x = some (some u)) (r : RelV v u) : KDct K w a x v := by
  obtain ⟨es, n, hd⟩ := He.dicW_ok h
  exact ⟨es, n, u, hd.1, hd.2, hx, r⟩
end Z

namespace Z
open L2 PySem PySem.Spec PyProof.Rows
open Evl (Ex ex_l ex_t ex_rd fresh_back)
/-! ### sorted of a list of alike data (any kind) -/
def rSortedD (K : Fg) : List V → Hp → VK → Prop := fun vs H Q => ∃ (a : Addr) (bs : List (V × Da)), vs = [V.ref a] ∧ SqL K H a (bs.map Prod.fst) ∧ (∀ b ∈ bs, Dp K H b.1 b.2) ∧ PySem.W.AllAlike (bs.map Prod.snd) ∧ PySem.W.Sortable (bs.map Prod.snd) ∧ (∀ b ∈ bs, b.2.depth ≤ 50) ∧
  ∀ (bs' : List (V × Da)) (p : Addr), bs'.Perm bs → H p = none → Q (.ref p) (upd H p (.lst (bs'.map Prod.fst)))
theorem each_vals : ∀ {bs : List (V × Da)} {its : List Value}, Vals (bs.map Prod.fst) its → PySem.W.EachIs (fun v b => RelV b.1 v) its bs
  | [], _, h => by cases h; exact .nil
  | b :: bs, _, h => by
    cases h with
    | cons h t => exact .cons h (each_vals t)
theorem vals_each : ∀ {bs : List (V × Da)} {its : List Value}, PySem.W.EachIs (fun v b => RelV b.1 v) its bs → Vals (bs.map Prod.fst) its
  | _, _, .nil => .nil
  | _, _, .cons h t => .cons h (vals_each t)
theorem each_and {α β : Type} {R S : α → β → Prop} : ∀ {as : List α} {bs : List β}, PySem.W.EachIs R as bs → (∀ a, ∀ b ∈ bs, R a b → S a b) → PySem.W.EachIs S as bs
  | _, _, .nil, _ => .nil
  | _, _, .cons h t, k => .cons (k _ _ (List.mem_cons_self ..) h) (each_and t fun a b hb => k a b (List.mem_cons_of_mem _ hb))
section
variable {X : Cx}
theorem cr_sortedD (hu : X.A.units + 64 < cLine) : CallR X (.builtin "sorted") (rSortedD X.K) := by
  intro pins s σ H vs us Q I r h
  obtain ⟨a, bs, rfl, hs, hd, ha, hk, hdp, q⟩ := h
  obtain ⟨its, rv, hl, hz⟩ := I.list hs
  rw [Vals.ref1 r]
  have e := each_vals rv
  have er : PySem.W.EachIs (fun v (b : V × Da) => ∃ as, Reads s.heap v b.2 as) its bs := each_and e fun v b hb hr => Dp.reads I b.2 b.1 v (hd b hb) hr
  rw [List.length_map] at hz
  refine PySem.W.sorted_data (enc := Prod.snd) hl.isList e er ha hk hz (fun b hb => by have := hdp b hb; omega) fun out h1 h2 => ?_
  obtain ⟨ep, he'⟩ := PyProof.Rows.sortedAll_at s.heap its out.toArray
  have pm : (bs.mergeSort (PySem.W.dataLe false Prod.snd)).Perm bs := List.mergeSort_perm ..
  have hlen : ((bs.mergeSort (PySem.W.dataLe false Prod.snd)).map Prod.fst).length ≤ sizeLine := by rw [List.length_map, pm.length_eq]; exact hz
  exact ⟨.ref _, upd H (s.heap.objs.size + 1) (.lst ((bs.mergeSort (PySem.W.dataLe false Prod.snd)).map Prod.fst)), I.laid (t' := s.toks) (fun _ _ => PyProof.Rows.sortedAll_old) (Nat.le_succ _) ⟨hlen, out, ep, vals_each h2, he'⟩, rfl, q _ _ pm (I.hok.fresh (Nat.le_succ _))⟩
end
def cSortedD : CF := fun rs post => match rs with
  | [.val (.list ds)] => PySem.W.AllAlike ds ∧ PySem.W.Sortable ds ∧ (∀ d ∈ ds, d.canLay0 = true ∧ d.depth ≤ 50) ∧ ∀ ds' : List Da, ds'.Perm ds → post (.list ds')
  | _ => False
theorem rps_zip {K : Fg} {F : Hp} : ∀ {xs : List V} {ds : List Da}, Rps K F xs ds → ∃ bs : List (V × Da), bs.map Prod.fst = xs ∧ bs.map Prod.snd = ds ∧ ∀ b ∈ bs, Rp K F b.1 b.2
  | _, _, .nil => ⟨[], rfl, rfl, fun b hb => nomatch hb⟩
  | _, _, .cons h t => by
    obtain ⟨bs, rfl, rfl, h3⟩ := rps_zip t
    refine ⟨(_, _) :: bs, rfl, rfl, fun b hb => ?_⟩
    rcases List.mem_cons.mp hb with rfl | hb
    · exact h
    · exact h3 b hb
theorem zip_rps {K : Fg} {F : Hp} : ∀ {bs : List (V × Da)}, (∀ b ∈ bs, Rp K F b.1 b.2) → Rps K F (bs.map Prod.fst) (bs.map Prod.snd)
  | [], _ => .nil
  | b :: bs, h => .cons (h b (List.mem_cons_self ..)) (zip_rps fun c hc => h c (List.mem_cons_of_mem _ hc))
theorem ok_sortedD {K : Fg} : CallOk K (rSortedD K) cSortedD := fun F H a fu vs rs post Q e t hf k => by
  unfold cSortedD at hf
  split at hf
  · rename_i ds
    obtain ⟨v, rfl, r⟩ := t.v1
    obtain ⟨h1, h2, h3, h4⟩ := hf
    cases r with
    | lst sq m =>
      obtain ⟨bs, rfl, rfl, hb⟩ := rps_zip m
      refine ⟨_, bs, rfl, .inl (.inl (e _ _ sq)), fun b hm => (hb b hm).dp e _ _ (h3 _ (List.mem_map_of_mem hm)).1, h1, h2, fun b hm => (h3 _ (List.mem_map_of_mem hm)).2, fun bs' p pm hp => ?_⟩
      have gr := Gr.new (o := .lst (bs'.map Prod.fst)) e hp
      exact k _ _ _ _ (h4 _ (pm.map _)) gr (.lst upd_same ((zip_rps fun b hm => hb b (pm.mem_iff.mp hm)).up gr.f))
  · exact hf.elim
section
variable {X : Cx} {p pos : Pos} {e : Expr} {tr : DA} {k : Nat}
theorem e_sortedD (hr : Room k X.A) (hg : Gl X "sorted") (hm : X.mg "sorted" = none) (ha : PA X [e] (upA X.K tr)) (he : starEach [e] X.env = (false, eval e X.env) :: starEach [] X.env := by rfl) : PE X (.Call (.Name "sorted" p) [e] [] pos) (up X.K (dCB cSortedD tr)) := e_callB (cr_sortedD hr.units) ok_sortedD hg hm (by decide +kernel) ha (by decide) (by decide) he rfl
end
end Z

namespace Z
open L2 PySem PySem.Spec PyProof.Rows
open Evl (Ex ex_l ex_t ex_rd fresh_back)
/-! ### thresholds: plain law -/
theorem div_cross {a b a' b' : Int} (hb : 0 < b) (hb' : 0 < b') (h : a * b' = a' * b) : a / b = a' / b' := by
  have e1 : a / b = (a * b') / (b * b') := (Int.mul_ediv_mul_of_pos_left a b hb').symm
  have e2 : a' / b' = (a' * b) / (b' * b) := (Int.mul_ediv_mul_of_pos_left a' b' hb).symm
  rw [e1, e2, h, Int.mul_comm b b']
theorem low_mul {x y c : Int} (hc : 0 < c) : low (x * c) (y * c) = low x y := by
  unfold low
  rw [Int.gcd_mul_right, Int.natCast_mul]
  have e : ((c.natAbs : Nat) : Int) = c := by omega
  rw [e, Int.mul_ediv_mul_of_pos_left _ _ hc, Int.mul_ediv_mul_of_pos_left _ _ hc]
theorem low_cross {x y x' y' : Int} (hy : 0 < y) (hy' : 0 < y') (h : x * y' = x' * y) : low x y = low x' y' := by
  rw [← low_mul (x := x) (y := y) hy', ← low_mul (x := x') (y := y') hy, h, Int.mul_comm y y']
theorem low_self {n d : Int} (h : Int.gcd n d = 1) : low n d = (n, d) := by
  unfold low
  rw [h]
  simp
theorem mod_cross {a b a' b' : Int} (hb : 0 < b) (hb' : 0 < b') (h : a * b' = a' * b) : (a % b) * b' = (a' % b') * b := by
  have e := div_cross hb hb' h
  rw [Int.emod_def, Int.emod_def, ← e, Int.sub_mul, Int.sub_mul, h]
  grind
theorem low_val {x y : Int} (hy : 0 < y) : (low x y).1 * y = x * (low x y).2 := by
  unfold low
  obtain ⟨u, hu⟩ : (Int.gcd x y : Int) ∣ x := Int.gcd_dvd_left x y
  obtain ⟨v, hv⟩ : (Int.gcd x y : Int) ∣ y := Int.gcd_dvd_right x y
  have g0 := gcd_pos (a := x) hy
  generalize (Int.gcd x y : Int) = g at *
  subst hu hv
  rw [Int.mul_ediv_cancel_left _ (by omega), Int.mul_ediv_cancel_left _ (by omega)]
  grind
theorem pow_lt_pow2 {a b : Nat} (h : (2 : Int) ^ a < 2 ^ b) : a < b := by
  by_cases q : a < b
  · exact q
  · have : (2 : Int) ^ b ≤ 2 ^ a := by
      obtain ⟨c, rfl⟩ : ∃ c, a = b + c := ⟨a - b, by omega⟩
      rw [Int.pow_add]
      have h1 := pow2_pos b
      have h2 := pow2_pos c
      have := Int.mul_le_mul_of_nonneg_left (show (1 : Int) ≤ 2 ^ c by omega) (Int.le_of_lt h1)
      omega
    omega
theorem pow_le2 {a b : Nat} (h : a ≤ b) : (2 : Int) ^ a ≤ 2 ^ b := by
  obtain ⟨c, rfl⟩ : ∃ c, b = a + c := ⟨b - a, by omega⟩
  rw [Int.pow_add]
  have h1 := pow2_pos a
  have h2 := pow2_pos c
  have := Int.mul_le_mul_of_nonneg_left (show (1 : Int) ≤ 2 ^ c by omega) (Int.le_of_lt h1)
  omega
/-- a cell told by any exponent p - q -/
theorem cell_at {n d w : Int} (hn : 0 < n) (hd : 0 < d) (hw : 1 ≤ w) {p q : Nat} (h1 : 2 ^ (w - 1).toNat ≤ n * 2 ^ q / (d * 2 ^ p)) (h2 : n * 2 ^ q / (d * 2 ^ p) < 2 ^ w.toNat) :
    cellI n d w = (n * 2 ^ q / (d * 2 ^ p), (p : Int) - q) ∧ posI n d w = low (n * 2 ^ q % (d * 2 ^ p)) (d * 2 ^ p) := by
  obtain ⟨c1, c2, c3, _⟩ := cellI_spec hn hd hw
  have hp : 0 < d * 2 ^ p := Int.mul_pos hd (pow2_pos p)
  generalize hk : (cellI n d w).1 = k at c1 c2 c3
  generalize he : (cellI n d w).2 = e at c1
  unfold scI at c1
  generalize hA : (0 - e).toNat = A at c1
  generalize hB : (-(0 - e)).toNat = B at c1
  have hP : 0 < d * 2 ^ B := Int.mul_pos hd (pow2_pos B)
  replace c1 : k = n * 2 ^ A / (d * 2 ^ B) := c1
  rw [c1] at c2 c3
  have ew : w.toNat = (w - 1).toNat + 1 := by omega
  have x1 := (Int.le_ediv_iff_mul_le hp).mp h1
  have x2 := (Int.ediv_lt_iff_lt_mul hp).mp h2
  have y1 := (Int.le_ediv_iff_mul_le hP).mp c2
  have y2 := (Int.ediv_lt_iff_lt_mul hP).mp c3
  have mono : ∀ {a b : Int} (j : Nat), a ≤ b → a * 2 ^ j ≤ b * 2 ^ j := fun j h => Int.mul_le_mul_of_nonneg_right h (Int.le_of_lt (pow2_pos j))
  have mono' : ∀ {a b : Int} (j : Nat), a < b → a * 2 ^ j < b * 2 ^ j := fun j h => Int.mul_lt_mul_of_pos_right h (pow2_pos j)
  have key : ∀ {s t u v : Nat}, 2 ^ s * (d * 2 ^ t) < 2 ^ u * (d * 2 ^ v) → s + t < u + v := fun {s t u v} h => by
    refine pow_lt_pow2 ?_
    rw [Int.pow_add, Int.pow_add]
    refine Int.lt_of_mul_lt_mul_left (a := d) ?_ (Int.le_of_lt hd)
    grind
  have hpq : B + q = p + A := by
    have z1 : (w - 1).toNat + (p + A) < w.toNat + (B + q) := by
      refine key ?_
      have := mono A x1
      have := mono' q y2
      rw [Int.pow_add, Int.pow_add]
      grind
    have z2 : (w - 1).toNat + (B + q) < w.toNat + (p + A) := by
      refine key ?_
      have := mono q y1
      have := mono' A x2
      rw [Int.pow_add, Int.pow_add]
      grind
    omega
  have hx : n * 2 ^ A * (d * 2 ^ p) = n * 2 ^ q * (d * 2 ^ B) := by
    have : (2 : Int) ^ A * 2 ^ p = 2 ^ q * 2 ^ B := by rw [← Int.pow_add, ← Int.pow_add]; congr 1; omega
    grind
  have e1 := div_cross hP hp hx
  have ec : cellI n d w = (n * 2 ^ q / (d * 2 ^ p), (p : Int) - q) := by
    refine Prod.ext ?_ ?_
    · rw [hk, c1, e1]
    · rw [he]
      show e = (p : Int) - q
      omega
  refine ⟨ec, ?_⟩
  unfold posI
  rw [hk, he]
  unfold scI
  rw [hA, hB, c1]
  show low (n * 2 ^ A - n * 2 ^ A / (d * 2 ^ B) * (d * 2 ^ B)) (d * 2 ^ B) = _
  have em : n * 2 ^ A - n * 2 ^ A / (d * 2 ^ B) * (d * 2 ^ B) = n * 2 ^ A % (d * 2 ^ B) := by
    rw [Int.emod_def]
    grind
  rw [em]
  exact low_cross hP hp (mod_cross hP hp hx)
/-- what a power number is -/
theorem pow_val {k e : Int} {p q : Nat} (he : e = (p : Int) - q) : (powI k e).1 * 2 ^ q = k * 2 ^ p * (powI k e).2 := by
  unfold powI scI
  generalize hA : e.toNat = A
  generalize hB : (-e).toNat = B
  have h := low_val (x := k * 2 ^ A) (y := 1 * 2 ^ B) (Int.mul_pos (by decide) (pow2_pos B))
  show (low (k * 2 ^ A) (1 * 2 ^ B)).1 * 2 ^ q = k * 2 ^ p * (low (k * 2 ^ A) (1 * 2 ^ B)).2
  generalize low (k * 2 ^ A) (1 * 2 ^ B) = y at h ⊢
  have s : (2 : Int) ^ A * 2 ^ q = 2 ^ p * 2 ^ B := by rw [← Int.pow_add, ← Int.pow_add]; congr 1; omega
  refine Int.eq_of_mul_eq_mul_right (a := 2 ^ B) (by have := pow2_pos B; omega) ?_
  calc y.1 * 2 ^ q * 2 ^ B = y.1 * (1 * 2 ^ B) * 2 ^ q := by grind
    _ = k * 2 ^ A * y.2 * 2 ^ q := by rw [h]
    _ = k * y.2 * (2 ^ A * 2 ^ q) := by grind
    _ = k * y.2 * (2 ^ p * 2 ^ B) := by rw [s]
    _ = k * 2 ^ p * y.2 * 2 ^ B := by grind
theorem pow_pos {k e : Int} (hk : 0 < k) : 0 < (powI k e).1 ∧ 0 < (powI k e).2 ∧ Int.gcd (powI k e).1 (powI k e).2 = 1 := by
  unfold powI
  obtain ⟨a, b⟩ := scI_pos (n := k) (d := 1) (f := e) hk (by decide)
  obtain ⟨h1, h2, h3, _⟩ := low_pos a b
  exact ⟨h1, h2, h3⟩
/-- equal in value, both in lowest terms -/
theorem low_uniq {n d n' d' : Int} (hd : 0 < d) (hd' : 0 < d') (hg : Int.gcd n d = 1) (hg' : Int.gcd n' d' = 1) (h : n * d' = n' * d) : (n, d) = (n', d') := by
  rw [← low_self hg, ← low_self hg', low_cross hd hd' h]
theorem pow_is {n d k e : Int} {p q : Nat} (he : e = (p : Int) - q) (hk : 0 < k) (hd : 0 < d) (hg : Int.gcd n d = 1) (h : n * 2 ^ q = k * 2 ^ p * d) : powI k e = (n, d) := by
  obtain ⟨_, h2, h3⟩ := pow_pos (k := k) (e := e) hk
  have hv := pow_val (k := k) he
  refine low_uniq (n := (powI k e).1) (d := (powI k e).2) h2 hd h3 hg ?_
  refine Int.eq_of_mul_eq_mul_right (a := 2 ^ q) (by have := pow2_pos q; omega) ?_
  calc (powI k e).1 * d * 2 ^ q = (powI k e).1 * 2 ^ q * d := by grind
    _ = k * 2 ^ p * (powI k e).2 * d := by rw [hv]
    _ = n * 2 ^ q * (powI k e).2 := by rw [h]; grind
    _ = n * (powI k e).2 * 2 ^ q := by grind
/-- a threshold: a fraction, and to which side it goes there -/
structure Th where
  n : Int
  d : Int
  up : Bool
structure Th.Ok (t : Th) : Prop where
  n0 : 0 ≤ t.n
  nd : t.n ≤ t.d
  d0 : 0 < t.d
  z : t.n = 0 → t.up = false
  o : t.n = t.d → t.up = true
def Abv (x y : Int) (t : Th) : Prop := t.n * y < x * t.d ∨ (t.n * y = x * t.d ∧ t.up = true)
instance (x y : Int) (t : Th) : Decidable (Abv x y t) := by unfold Abv; infer_instance
theorem abv_mul {x y c : Int} {t : Th} (hc : 0 < c) : Abv (x * c) (y * c) t ↔ Abv x y t := by
  unfold Abv
  rw [show t.n * (y * c) = (t.n * y) * c by grind, show x * c * t.d = (x * t.d) * c by grind, Int.mul_lt_mul_right hc, Int.mul_eq_mul_right_iff (by omega)]
theorem abv_low {x y : Int} {t : Th} (hy : 0 < y) : Abv (low x y).1 (low x y).2 t ↔ Abv x y t := by
  obtain ⟨u, hu⟩ : (Int.gcd x y : Int) ∣ x := Int.gcd_dvd_left x y
  obtain ⟨v, hv⟩ : (Int.gcd x y : Int) ∣ y := Int.gcd_dvd_right x y
  have g0 := gcd_pos (a := x) hy
  have e : low x y = (u, v) := by
    unfold low
    refine Prod.ext ?_ ?_
    · show x / (Int.gcd x y : Int) = u
      generalize (Int.gcd x y : Int) = g at *
      rw [hu, Int.mul_ediv_cancel_left _ (by omega)]
    · show y / (Int.gcd x y : Int) = v
      generalize (Int.gcd x y : Int) = g at *
      rw [hv, Int.mul_ediv_cancel_left _ (by omega)]
  rw [e]
  show Abv u v t ↔ _
  generalize (Int.gcd x y : Int) = g at *
  rw [hu, hv, Int.mul_comm g u, Int.mul_comm g v]
  exact (abv_mul g0).symm
/-- the same fraction, not in lowest terms -/
theorem abv_th {x y n d : Int} {up : Bool} (hd : 0 < d) : Abv x y ⟨(low n d).1, (low n d).2, up⟩ ↔ Abv x y ⟨n, d, up⟩ := by
  have h := low_val (x := n) hd
  obtain ⟨v, hv⟩ : (Int.gcd n d : Int) ∣ d := Int.gcd_dvd_right n d
  have g0 := gcd_pos (a := n) hd
  have l2 : 0 < (low n d).2 := by
    show 0 < d / (Int.gcd n d : Int)
    generalize (Int.gcd n d : Int) = g at *
    rw [hv, Int.mul_ediv_cancel_left _ (by omega)]
    rw [hv] at hd
    exact Int.pos_of_mul_pos_right hd g0 
  unfold Abv
  show ((low n d).1 * y < x * (low n d).2 ∨ ((low n d).1 * y = x * (low n d).2 ∧ up = true)) ↔ (n * y < x * d ∨ (n * y = x * d ∧ up = true))
  generalize low n d = z at *
  have e1 : z.1 * y * d = n * y * z.2 := by
    calc z.1 * y * d = (z.1 * d) * y := by grind
      _ = n * z.2 * y := by rw [h]
      _ = n * y * z.2 := by grind
  have e2 : x * z.2 * d = x * d * z.2 := by grind
  have a1 : z.1 * y < x * z.2 ↔ n * y < x * d := by
    rw [← Int.mul_lt_mul_right hd, e1, e2, Int.mul_lt_mul_right l2]
  have a2 : z.1 * y = x * z.2 ↔ n * y = x * d := by
    rw [← Int.mul_eq_mul_right_iff (show d ≠ 0 by omega), e1, e2, Int.mul_eq_mul_right_iff (show z.2 ≠ 0 by omega)]
  rw [a1, a2]
theorem abv_zero {y : Int} {t : Th} (h : t.Ok) (hy : 0 < y) : ¬ Abv 0 y t := by
  unfold Abv
  rw [Int.zero_mul]
  rintro (q | ⟨q1, q2⟩)
  · have := Int.mul_nonneg h.n0 (Int.le_of_lt hy)
    omega
  · have : t.n = 0 := by
      rcases Int.mul_eq_zero.mp q1 with z | z
      · exact z
      · omega
    rw [h.z this] at q2
    cases q2
theorem abv_one {y : Int} {t : Th} (h : t.Ok) (hy : 0 < y) : Abv y y t := by
  unfold Abv
  by_cases q : t.n = t.d
  · exact .inr ⟨by rw [q, Int.mul_comm], h.o q⟩
  · refine .inl ?_
    rw [Int.mul_comm y]
    exact Int.mul_lt_mul_of_pos_right (by have := h.nd; omega) hy
/-- rounding at width w by thresholds for even (false) and odd (true) cells -/
def thrI (n d w : Int) (T : Bool → Th) : Int × Int :=
  powI ((cellI n d w).1 + (if Abv (posI n d w).1 (posI n d w).2 (T (decide ((cellI n d w).1 % 2 = 1))) then 1 else 0)) (cellI n d w).2
def nev : Th := ⟨1, 1, true⟩
def alw : Th := ⟨0, 1, false⟩
def tieD : Th := ⟨1, 2, false⟩
def tieU : Th := ⟨1, 2, true⟩
def byR : Ru → Bool → Th
  | .dn, _ => nev
  | .hd, _ => tieD
  | .he, false => tieD
  | .he, true => tieU
  | .hu, _ => tieU
  | .od, false => alw
  | .od, true => nev
  | .up, _ => alw
theorem byR_ok (r : Ru) (b : Bool) : (byR r b).Ok := by
  cases r <;> cases b <;> exact ⟨by decide, by decide, by decide, by decide, by decide⟩
/-- the cell's own: p, q with e = p - q -/
theorem cell_pq {n d w : Int} (hn : 0 < n) (hd : 0 < d) (hw : 1 ≤ w) (p q : Nat) (h : (cellI n d w).2 = (p : Int) - q) :
    (cellI n d w).1 = n * 2 ^ q / (d * 2 ^ p) ∧ 2 ^ (w - 1).toNat ≤ (cellI n d w).1 ∧ (cellI n d w).1 < 2 ^ w.toNat ∧ posI n d w = low (n * 2 ^ q % (d * 2 ^ p)) (d * 2 ^ p) := by
  obtain ⟨c1, c2, c3, _⟩ := cellI_spec hn hd hw
  have e1 : (cellI n d w).1 = n * 2 ^ q / (d * 2 ^ p) := by
    rw [c1]
    generalize (cellI n d w).2 = e at h
    unfold scI
    generalize hA : (0 - e).toNat = A
    generalize hB : (-(0 - e)).toNat = B
    show n * 2 ^ A / (d * 2 ^ B) = _
    refine div_cross (Int.mul_pos hd (pow2_pos B)) (Int.mul_pos hd (pow2_pos p)) ?_
    have : (2 : Int) ^ A * 2 ^ p = 2 ^ q * 2 ^ B := by rw [← Int.pow_add, ← Int.pow_add]; congr 1; omega
    grind
  rw [e1] at c2 c3
  exact ⟨e1, by rw [e1]; exact c2, by rw [e1]; exact c3, (cell_at hn hd hw c2 c3).2⟩
theorem lowZ' {x y : Int} (hy : 0 < y) : (low x y).1 = 0 ↔ x = 0 := by
  have h := low_val (x := x) hy
  constructor
  · intro z
    rw [z, Int.zero_mul] at h
    rcases Int.mul_eq_zero.mp h.symm with q | q
    · exact q
    · exfalso
      have g0 := gcd_pos (a := x) hy
      have : (low x y).2 = y / (Int.gcd x y : Int) := rfl
      obtain ⟨v, hv⟩ : (Int.gcd x y : Int) ∣ y := Int.gcd_dvd_right x y
      rw [this] at q
      generalize (Int.gcd x y : Int) = g at *
      rw [hv, Int.mul_ediv_cancel_left _ (by omega)] at q
      subst q
      omega
  · rintro rfl
    show 0 / _ = _
    exact Int.zero_ediv _
/-- where the position is 0, it is the number itself -/
theorem pow_self {n d w : Int} (hn : 0 < n) (hd : 0 < d) (hg : Int.gcd n d = 1) (hw : 1 ≤ w) (h : (posI n d w).1 = 0) : powI (cellI n d w).1 (cellI n d w).2 = (n, d) := by
  obtain ⟨p, q, he⟩ : ∃ p q : Nat, (cellI n d w).2 = (p : Int) - q := ⟨((cellI n d w).2).toNat, (-(cellI n d w).2).toNat, by omega⟩
  obtain ⟨c1, c2, c3, c4⟩ := cell_pq hn hd hw p q he
  have hb := Int.mul_pos hd (pow2_pos p)
  rw [c4, lowZ' hb] at h
  refine pow_is he (Int.lt_of_lt_of_le (pow2_pos _) c2) hd hg ?_
  have := Int.emod_def (n * 2 ^ q) (d * 2 ^ p)
  rw [h, ← c1] at this
  grind
theorem thr_self {n d w : Int} {T : Bool → Th} (hT : ∀ b, (T b).Ok) (hn : 0 < n) (hd : 0 < d) (hg : Int.gcd n d = 1) (hw : 1 ≤ w) (h : (posI n d w).1 = 0) : thrI n d w T = (n, d) := by
  unfold thrI
  have y0 : 0 < (posI n d w).2 := by
    have q : ∃ x y : Int, 0 ≤ x ∧ 0 < y ∧ posI n d w = low x y := by
      obtain ⟨p, q, he⟩ : ∃ p q : Nat, (cellI n d w).2 = (p : Int) - q := ⟨((cellI n d w).2).toNat, (-(cellI n d w).2).toNat, by omega⟩
      obtain ⟨c1, c2, c3, c4⟩ := cell_pq hn hd hw p q he
      have hb := Int.mul_pos hd (pow2_pos p)
      exact ⟨_, _, Int.emod_nonneg _ (by omega), hb, c4⟩
    obtain ⟨x, y, hx, hy, e⟩ := q
    rw [e, lowZ' hy] at h
    subst h
    rw [e]
    show 0 < y / (Int.gcd 0 y : Int)
    rw [Int.gcd_zero_left]
    have : ((y.natAbs : Nat) : Int) = y := by omega
    rw [this, Int.ediv_self (by omega)]
    decide
  rw [h, if_neg (abv_zero (hT _) y0), Int.add_zero]
  exact pow_self hn hd hg hw h
/-- position: between 0 and 1 -/
theorem pos_rng {n d w : Int} (hn : 0 < n) (hd : 0 < d) (hw : 1 ≤ w) (h : (posI n d w).1 ≠ 0) : 0 < (posI n d w).1 ∧ (posI n d w).1 < (posI n d w).2 := by
  obtain ⟨p, q, he⟩ : ∃ p q : Nat, (cellI n d w).2 = (p : Int) - q := ⟨((cellI n d w).2).toNat, (-(cellI n d w).2).toNat, by omega⟩
  obtain ⟨c1, c2, c3, c4⟩ := cell_pq hn hd hw p q he
  have hb := Int.mul_pos hd (pow2_pos p)
  have m0 := Int.emod_nonneg (n * 2 ^ q) (show d * 2 ^ p ≠ 0 by omega)
  have m1 := Int.emod_lt_of_pos (n * 2 ^ q) hb
  rw [c4] at h ⊢
  have x0 : n * 2 ^ q % (d * 2 ^ p) ≠ 0 := fun z => h ((lowZ' hb).mpr z)
  generalize n * 2 ^ q % (d * 2 ^ p) = x at *
  generalize d * 2 ^ p = y at *
  obtain ⟨h1, h2, _⟩ := low_pos (n := x) (d := y) (by omega) hb
  have hv := low_val (x := x) hb
  refine ⟨h1, ?_⟩
  generalize low x y = z at *
  refine Int.lt_of_mul_lt_mul_right (a := y) ?_ (Int.le_of_lt hb)
  rw [hv, Int.mul_comm x]
  exact Int.mul_lt_mul_of_pos_left m1 h2
theorem goes_abv {k x y : Int} (r : Ru) (hx : 0 < x) (hy : x < y) : goesUp k x y r = true ↔ Abv x y (byR r (decide (k % 2 = 1))) := by
  have h2 : k % 2 = 0 ∨ k % 2 = 1 := by omega
  rcases h2 with h2 | h2 <;> cases r <;> simp only [goesUp, byR, h2, Abv, nev, alw, tieD, tieU] <;> simp <;> first | omega | (split <;> simp <;> omega) | skip
theorem thr_round {n d w : Int} (r : Ru) (hn : 0 < n) (hd : 0 < d) (hg : Int.gcd n d = 1) (hw : 1 ≤ w) : roundI n d w r = thrI n d w (byR r) := by
  by_cases h : (posI n d w).1 = 0
  · rw [thr_self (byR_ok r) hn hd hg hw h]
    unfold roundI endsI
    rw [if_pos h]
    split <;> rfl
  · obtain ⟨p1, p2⟩ := pos_rng hn hd hw h
    have ga := goes_abv (k := (cellI n d w).1) r p1 p2
    unfold roundI endsI thrI
    rw [if_neg h]
    by_cases hu : goesUp (cellI n d w).1 (posI n d w).1 (posI n d w).2 r = true
    · rw [if_pos hu, if_pos (ga.mp hu)]
    · rw [if_neg hu, if_neg (fun z => hu (ga.mpr z)), Int.add_zero]
/-- the last index that stays down -/
def lastI (r : Ru) (far : Nat) (b : Bool) : Int :=
  if (byR r b).up = false then (byR r b).n * 2 ^ far / (byR r b).d else (byR r b).n * 2 ^ far / (byR r b).d - 1
def combI (T : Bool → Th) (r : Ru) (far : Nat) (b : Bool) : Th :=
  ⟨(low (lastI r far b * (T (decide (lastI r far b % 2 = 1))).d + (T (decide (lastI r far b % 2 = 1))).n) ((T (decide (lastI r far b % 2 = 1))).d * 2 ^ far)).1,
   (low (lastI r far b * (T (decide (lastI r far b % 2 = 1))).d + (T (decide (lastI r far b % 2 = 1))).n) ((T (decide (lastI r far b % 2 = 1))).d * 2 ^ far)).2,
   (T (decide (lastI r far b % 2 = 1))).up⟩
theorem last_iff {r : Ru} {far : Nat} {b : Bool} {x : Int} (hf : 1 ≤ far) (h0 : 0 ≤ x) (h1 : x ≤ 2 ^ far) : Abv x (2 ^ far) (byR r b) ↔ lastI r far b < x := by
  obtain ⟨f, rfl⟩ : ∃ f, far = f + 1 := ⟨far - 1, by omega⟩
  have e : (2 : Int) ^ (f + 1) = 2 * 2 ^ f := by rw [Int.pow_succ, Int.mul_comm]
  have p := pow2_pos f
  unfold lastI Abv
  rw [e] at h1 ⊢
  generalize (2 : Int) ^ f = F at *
  cases r <;> cases b <;> simp only [byR, nev, alw, tieD, tieU] <;> simp <;> omega
theorem last_rng {r : Ru} {far : Nat} {b : Bool} (hf : 1 ≤ far) : 0 ≤ lastI r far b ∧ lastI r far b < 2 ^ far := by
  obtain ⟨f, rfl⟩ : ∃ f, far = f + 1 := ⟨far - 1, by omega⟩
  have e : (2 : Int) ^ (f + 1) = 2 * 2 ^ f := by rw [Int.pow_succ, Int.mul_comm]
  have p := pow2_pos f
  unfold lastI
  rw [e]
  generalize (2 : Int) ^ f = F at *
  cases r <;> cases b <;> simp only [byR, nev, alw, tieD, tieU] <;> simp <;> omega
theorem comb_core {i j b c : Int} {t : Th} (ht : t.Ok) (hb : 0 < b) (c0 : 0 ≤ c) (c1 : c < b) :
    (i * t.d + t.n) * b < (j * b + c) * t.d ∨ ((i * t.d + t.n) * b = (j * b + c) * t.d ∧ t.up = true) ↔ (i < j ∨ (i = j ∧ Abv c b t)) := by
  have hd := ht.d0
  have hn := ht.n0
  have hnd := ht.nd
  have e : (j * b + c) * t.d - (i * t.d + t.n) * b = (j - i) * (b * t.d) + (c * t.d - t.n * b) := by grind
  have bd := Int.mul_pos hb hd
  have x1 : 0 ≤ t.n * b := Int.mul_nonneg hn (Int.le_of_lt hb)
  have x2 : t.n * b ≤ b * t.d := by rw [Int.mul_comm b]; exact Int.mul_le_mul_of_nonneg_right hnd (Int.le_of_lt hb)
  have x3 : 0 ≤ c * t.d := Int.mul_nonneg c0 (Int.le_of_lt hd)
  have x4 : c * t.d < b * t.d := Int.mul_lt_mul_of_pos_right c1 hd
  have x5 : t.n * b = b * t.d → t.n = t.d := fun h => by
    rw [Int.mul_comm b] at h
    exact Int.eq_of_mul_eq_mul_right (by omega) h
  unfold Abv
  generalize hL : (i * t.d + t.n) * b = L at *
  generalize hR : (j * b + c) * t.d = R at *
  rcases Int.lt_trichotomy i j with h | h | h
  · have y : b * t.d ≤ (j - i) * (b * t.d) := by
      have := Int.mul_le_mul_of_nonneg_right (show 1 ≤ j - i by omega) (Int.le_of_lt bd)
      omega
    constructor
    · intro _; exact .inl h
    · intro _
      by_cases q : L < R
      · exact .inl q
      · refine .inr ⟨by omega, ht.o (x5 (by omega))⟩
  · subst h
    rw [Int.sub_self, Int.zero_mul] at e
    constructor
    · rintro (q | ⟨q1, q2⟩)
      · exact .inr ⟨rfl, .inl (by omega)⟩
      · exact .inr ⟨rfl, .inr ⟨by omega, q2⟩⟩
    · rintro (q | ⟨_, q | ⟨q1, q2⟩⟩)
      · omega
      · exact .inl (by omega)
      · exact .inr ⟨by omega, q2⟩
  · have y : (j - i) * (b * t.d) ≤ - (b * t.d) := by
      have := Int.mul_le_mul_of_nonneg_right (show j - i ≤ -1 by omega) (Int.le_of_lt bd)
      omega
    constructor
    · rintro (q | ⟨q1, q2⟩) <;> omega
    · rintro (q | ⟨q, _⟩) <;> omega
theorem comb_abv {T : Bool → Th} (hT : ∀ b, (T b).Ok) {r : Ru} {far : Nat} {bo : Bool} {j b c u : Int} (hf : 1 ≤ far) (j0 : 0 ≤ j) (j1 : j < 2 ^ far) (hb : 0 < b) (c0 : 0 ≤ c) (c1 : c < b)
    (hu : u = if Abv c b (T (decide (j % 2 = 1))) then 1 else 0) : Abv (j * b + c) (b * 2 ^ far) (combI T r far bo) ↔ Abv (j + u) (2 ^ far) (byR r bo) := by
  have F0 := pow2_pos far
  have hu' : u = 0 ∨ u = 1 := by rw [hu]; split <;> simp
  rw [last_iff hf (by omega) (by omega)]
  unfold combI
  generalize hi : lastI r far bo = i
  have ht := hT (decide (i % 2 = 1))
  generalize hTi : T (decide (i % 2 = 1)) = t at ht
  have hd := ht.d0
  rw [abv_th (Int.mul_pos hd F0)]
  have s1 : Abv (j * b + c) (b * 2 ^ far) ⟨i * t.d + t.n, t.d * 2 ^ far, t.up⟩ ↔ ((i * t.d + t.n) * b < (j * b + c) * t.d ∨ ((i * t.d + t.n) * b = (j * b + c) * t.d ∧ t.up = true)) := by
    unfold Abv
    show ((i * t.d + t.n) * (b * 2 ^ far) < (j * b + c) * (t.d * 2 ^ far) ∨ ((i * t.d + t.n) * (b * 2 ^ far) = (j * b + c) * (t.d * 2 ^ far) ∧ t.up = true)) ↔ _
    rw [← Int.mul_assoc, ← Int.mul_assoc, Int.mul_lt_mul_right F0, Int.mul_eq_mul_right_iff (by omega)]
  rw [s1, comb_core ht hb c0 c1]
  constructor
  · rintro (q | ⟨rfl, q⟩)
    · omega
    · rw [hTi, if_pos q] at hu
      omega
  · intro q
    by_cases h : i < j
    · exact .inl h
    · have e : i = j := by omega
      refine .inr ⟨e, ?_⟩
      by_cases z : Abv c b t
      · exact z
      · subst e
        rw [hTi, if_neg z] at hu
        omega
theorem th_ok_low {n d : Int} {up : Bool} (hd : 0 < d) (h0 : 0 ≤ n) (h1 : n ≤ d) (z : n = 0 → up = false) (o : n = d → up = true) : Th.Ok ⟨(low n d).1, (low n d).2, up⟩ := by
  have h := low_val (x := n) hd
  obtain ⟨v, hv⟩ : (Int.gcd n d : Int) ∣ d := Int.gcd_dvd_right n d
  have g0 := gcd_pos (a := n) hd
  have l2 : 0 < (low n d).2 := by
    show 0 < d / (Int.gcd n d : Int)
    generalize (Int.gcd n d : Int) = g at *
    rw [hv, Int.mul_ediv_cancel_left _ (by omega)]
    rw [hv] at hd
    exact Int.pos_of_mul_pos_right hd g0
  have l1 : 0 ≤ (low n d).1 := Int.ediv_nonneg h0 (Int.le_of_lt g0)
  refine ⟨l1, ?_, l2, ?_, ?_⟩
  · show (low n d).1 ≤ (low n d).2
    refine Int.le_of_mul_le_mul_right (a := d) ?_ hd
    rw [h, Int.mul_comm (low n d).2]
    exact Int.mul_le_mul_of_nonneg_right h1 (Int.le_of_lt l2)
  · intro q
    replace q : (low n d).1 = 0 := q
    exact z ((lowZ' hd).mp q)
  · intro q
    replace q : (low n d).1 = (low n d).2 := q
    refine o ?_
    rw [q, Int.mul_comm] at h
    exact (Int.eq_of_mul_eq_mul_right (by omega) h).symm
theorem comb_ok {T : Bool → Th} (hT : ∀ b, (T b).Ok) {r : Ru} {far : Nat} (hf : 1 ≤ far) (bo : Bool) : (combI T r far bo).Ok := by
  have F0 := pow2_pos far
  obtain ⟨i0, i1⟩ := last_rng (r := r) (b := bo) hf
  unfold combI
  generalize hi : lastI r far bo = i at *
  have ht := hT (decide (i % 2 = 1))
  generalize hTi : T (decide (i % 2 = 1)) = t at ht
  have hd := ht.d0
  have hn := ht.n0
  have x := Int.mul_nonneg i0 (Int.le_of_lt hd)
  have y : i * t.d + t.d ≤ t.d * 2 ^ far := by
    have := Int.mul_le_mul_of_nonneg_right (show i + 1 ≤ 2 ^ far by omega) (Int.le_of_lt hd)
    rw [Int.add_mul, Int.mul_comm (2 ^ far)] at this
    omega
  have hnd := ht.nd
  refine th_ok_low (Int.mul_pos hd F0) (by omega) (by omega) (fun z => ht.z (by omega)) (fun z => ht.o (by omega))
/-- a step after a rounding by thresholds is a rounding by the combined thresholds -/
theorem comb_law {T : Bool → Th} (hT : ∀ b, (T b).Ok) {r : Ru} {n d w : Int} {far : Nat} (hn : 0 < n) (hd : 0 < d) (hw : 1 ≤ w) (hf : 1 ≤ far) :
    thrI (thrI n d (w + far) T).1 (thrI n d (w + far) T).2 w (byR r) = thrI n d w (combI T r far) := by
  obtain ⟨p, q, he⟩ : ∃ p q : Nat, (cellI n d w).2 = ((p + far : Nat) : Int) - q := ⟨((cellI n d w).2 - far).toNat, (-((cellI n d w).2 - far)).toNat, by omega⟩
  obtain ⟨k1, k2, k3, k4⟩ := cell_pq hn hd hw (p + far) q he
  have F0 := pow2_pos far
  have P0 := pow2_pos p
  have hb : 0 < d * 2 ^ p := Int.mul_pos hd P0
  have eb : d * 2 ^ (p + far) = d * 2 ^ p * 2 ^ far := by rw [Int.pow_add, Int.mul_assoc]
  rw [eb] at k1 k4
  generalize hk : (cellI n d w).1 = k at k1 k2 k3
  generalize hb' : d * 2 ^ p = b at *
  generalize ha' : n * 2 ^ q = a at *
  have eK : a / b / 2 ^ far = k := by rw [Int.ediv_ediv, if_neg (fun h => absurd h.1 (by omega)), Int.sub_zero, k1]
  have j0 := Int.emod_nonneg (a / b) (show (2 : Int) ^ far ≠ 0 by omega)
  have j1 := Int.emod_lt_of_pos (a / b) F0
  have eKj : a / b = k * 2 ^ far + a / b % 2 ^ far := by
    have := Int.emod_add_mul_ediv (a / b) (2 ^ far)
    rw [eK] at this
    rw [Int.mul_comm k]
    omega
  generalize hj : a / b % 2 ^ far = j at *
  have c0 := Int.emod_nonneg a (show b ≠ 0 by omega)
  have c1 := Int.emod_lt_of_pos a hb
  have ea : a = b * (a / b) + a % b := (Int.mul_ediv_add_emod a b).symm
  have em : a % (b * 2 ^ far) = j * b + a % b := by
    have h1 : a = (j * b + a % b) + (b * 2 ^ far) * k := by
      rw [eKj] at ea
      grind
    have h2 : 0 ≤ j * b + a % b := by
      have := Int.mul_nonneg j0 (Int.le_of_lt hb)
      omega
    have h3 : j * b + a % b < b * 2 ^ far := by
      have := Int.mul_le_mul_of_nonneg_right (show j + 1 ≤ 2 ^ far by omega) (Int.le_of_lt hb)
      rw [Int.add_mul, Int.mul_comm (2 ^ far)] at this
      omega
    have h4 : a % (b * 2 ^ far) = (j * b + a % b) % (b * 2 ^ far) := by
      conv => lhs; rw [h1]
      exact Int.add_mul_emod_self_left ..
    rw [h4, Int.emod_eq_of_lt h2 h3]
  -- the wide cell
  have W1 : (2 : Int) ^ (w + far - 1).toNat ≤ a / b := by
    have : (w + far - 1).toNat = (w - 1).toNat + far := by omega
    rw [this, Int.pow_add, eKj]
    have := Int.mul_le_mul_of_nonneg_right k2 (Int.le_of_lt F0)
    omega
  have W2 : a / b < (2 : Int) ^ (w + far).toNat := by
    have : (w + far).toNat = w.toNat + far := by omega
    rw [this, Int.pow_add, eKj]
    have := Int.mul_le_mul_of_nonneg_right (show k + 1 ≤ 2 ^ w.toNat by omega) (Int.le_of_lt F0)
    rw [Int.add_mul] at this
    omega
  obtain ⟨v1, v2⟩ := cell_at (w := w + far) (p := p) (q := q) hn hd (by omega) (by rw [hb', ha']; exact W1) (by rw [hb', ha']; exact W2)
  rw [hb', ha'] at v1 v2
  have podd : a / b % 2 = j % 2 := by
    obtain ⟨f, rfl⟩ : ∃ f, far = f + 1 := ⟨far - 1, by omega⟩
    rw [eKj, Int.pow_succ]
    generalize (2 : Int) ^ f = G
    rw [show k * (G * 2) = (k * G) * 2 by grind]
    omega
  generalize hu : (if Abv (a % b) b (T (decide (j % 2 = 1))) then (1 : Int) else 0) = u
  have hu01 : u = 0 ∨ u = 1 := by rw [← hu]; split <;> simp
  have ey : thrI n d (w + far) T = powI (a / b + u) ((p : Int) - q) := by
    unfold thrI
    rw [v1, v2]
    show powI (a / b + if Abv _ _ (T (decide (a / b % 2 = 1))) then 1 else 0) _ = _
    rw [podd]
    congr 2
    rw [← hu]
    have hx := abv_low (x := a % b) (t := T (decide (j % 2 = 1))) hb
    by_cases z : Abv (a % b) b (T (decide (j % 2 = 1)))
    · rw [if_pos z, if_pos (hx.mpr z)]
    · rw [if_neg z, if_neg (fun y => z (hx.mp y))]
  have hab := comb_abv hT (r := r) (bo := decide (k % 2 = 1)) hf j0 j1 hb c0 c1 hu.symm
  have er : thrI n d w (combI T r far) = powI (k + if Abv (j + u) (2 ^ far) (byR r (decide (k % 2 = 1))) then 1 else 0) (((p + far : Nat) : Int) - q) := by
    unfold thrI
    rw [hk, k4, he, em]
    congr 2
    have hx := abv_low (x := j * b + a % b) (t := combI T r far (decide (k % 2 = 1))) (Int.mul_pos hb F0)
    by_cases z : Abv (j + u) (2 ^ far) (byR r (decide (k % 2 = 1)))
    · rw [if_pos z, if_pos (hx.mpr (hab.mpr z))]
    · rw [if_neg z, if_neg (fun y => z (hab.mp (hx.mp y)))]
  have K0 : 0 < a / b := Int.lt_of_lt_of_le (pow2_pos _) W1
  obtain ⟨y1, y2, y3⟩ := pow_pos (k := a / b + u) (e := (p : Int) - q) (by omega)
  have yv := pow_val (k := a / b + u) (e := (p : Int) - q) (p := p) (q := q) rfl
  rw [ey, er]
  generalize hy : powI (a / b + u) ((p : Int) - q) = y at *
  have k0 : 0 < k := Int.lt_of_lt_of_le (pow2_pos _) k2
  have yd : 0 < y.2 * 2 ^ p := Int.mul_pos y2 P0
  have yv' : y.1 * 2 ^ q = (k * 2 ^ far + (j + u)) * (y.2 * 2 ^ p) := by
    rw [yv, eKj]
    grind
  have ed : y.2 * 2 ^ (p + far) = 2 ^ far * (y.2 * 2 ^ p) := by rw [Int.pow_add]; grind
  by_cases hlt : j + u < 2 ^ far
  · have d1 : y.1 * 2 ^ q / (y.2 * 2 ^ (p + far)) = k := by
      rw [yv', ed, Int.mul_ediv_mul_of_pos_left _ _ yd, Int.mul_comm k, Int.mul_add_ediv_left _ _ (by omega), Int.ediv_eq_zero_of_lt (by omega) hlt, Int.add_zero]
    have d2 : y.1 * 2 ^ q % (y.2 * 2 ^ (p + far)) = (j + u) * (y.2 * 2 ^ p) := by
      rw [Int.emod_def, d1, yv', ed]
      grind
    obtain ⟨u1, u2⟩ := cell_at (n := y.1) (d := y.2) (w := w) (p := p + far) (q := q) y1 y2 hw (by rw [d1]; exact k2) (by rw [d1]; exact k3)
    rw [d1] at u1
    rw [d2, ed, low_mul yd] at u2
    unfold thrI
    rw [u1, u2]
    show powI (k + if Abv _ _ (byR r (decide (k % 2 = 1))) then 1 else 0) _ = _
    congr 2
    have hx := abv_low (x := j + u) (t := byR r (decide (k % 2 = 1))) F0
    by_cases z : Abv (j + u) (2 ^ far) (byR r (decide (k % 2 = 1)))
    · rw [if_pos z, if_pos (hx.mpr z)]
    · rw [if_neg z, if_neg (fun y => z (hx.mp y))]
  · have hju : j + u = 2 ^ far := by omega
    rw [hju, if_pos (abv_one (byR_ok _ _) F0)]
    rw [hju] at yv'
    have yv2 : y.1 * 2 ^ q = (k + 1) * 2 ^ (p + far) * y.2 := by
      rw [yv', Int.pow_add]
      grind
    have e2 : powI (k + 1) (((p + far : Nat) : Int) - q) = (y.1, y.2) := pow_is rfl (by omega) y2 y3 yv2
    rw [e2]
    refine thr_self (byR_ok r) y1 y2 y3 hw ?_
    have dd : 0 < y.2 * 2 ^ (p + far) := Int.mul_pos y2 (pow2_pos _)
    by_cases hk1 : k + 1 < 2 ^ w.toNat
    · have d1 : y.1 * 2 ^ q / (y.2 * 2 ^ (p + far)) = k + 1 := by
        rw [yv2, show (k + 1) * 2 ^ (p + far) * y.2 = (k + 1) * (y.2 * 2 ^ (p + far)) by grind, Int.mul_ediv_cancel _ (by omega)]
      have d2 : y.1 * 2 ^ q % (y.2 * 2 ^ (p + far)) = 0 := by
        rw [Int.emod_def, d1, yv2]
        grind
      obtain ⟨u1, u2⟩ := cell_at (n := y.1) (d := y.2) (w := w) (p := p + far) (q := q) y1 y2 hw (by rw [d1]; omega) (by rw [d1]; exact hk1)
      rw [u2, d2]
      exact (lowZ' dd).mpr rfl
    · have hk2 : k + 1 = 2 ^ w.toNat := by omega
      have ew : w.toNat = (w - 1).toNat + 1 := by omega
      have dd2 : 0 < y.2 * 2 ^ (p + far + 1) := Int.mul_pos y2 (pow2_pos _)
      have yv3 : y.1 * 2 ^ q = 2 ^ (w - 1).toNat * (y.2 * 2 ^ (p + far + 1)) := by
        rw [yv2, hk2, ew, Int.pow_succ, Int.pow_succ]
        grind
      have d1 : y.1 * 2 ^ q / (y.2 * 2 ^ (p + far + 1)) = 2 ^ (w - 1).toNat := by
        rw [yv3, Int.mul_ediv_cancel _ (by omega)]
      have d2 : y.1 * 2 ^ q % (y.2 * 2 ^ (p + far + 1)) = 0 := by
        rw [Int.emod_def, d1, yv3]
        grind
      obtain ⟨u1, u2⟩ := cell_at (n := y.1) (d := y.2) (w := w) (p := p + far + 1) (q := q) y1 y2 hw (by rw [d1]; omega) (by rw [d1, ew, Int.pow_succ]; have := pow2_pos (w - 1).toNat; omega)
      rw [u2, d2]
      exact (lowZ' dd2).mpr rfl
/-! ### chains: plain law -/
structure Nu (n d : Int) : Prop where
  n0 : 0 < n
  d0 : 0 < d
  g : Int.gcd n d = 1
/-- (k 2^e), k from 2^(w-1) to 2^w: of width w -/
theorem pow_fits {s e w : Int} (hw : 1 ≤ w) (h1 : 2 ^ (w - 1).toNat ≤ s) (h2 : s ≤ 2 ^ w.toNat) : (posI (powI s e).1 (powI s e).2 w).1 = 0 := by
  obtain ⟨p, q, he⟩ : ∃ p q : Nat, e = (p : Int) - q := ⟨e.toNat, (-e).toNat, by omega⟩
  have s0 : 0 < s := Int.lt_of_lt_of_le (pow2_pos _) h1
  obtain ⟨y1, y2, y3⟩ := pow_pos (k := s) (e := e) s0
  have yv := pow_val (k := s) he
  generalize powI s e = y at *
  have dd : 0 < y.2 * 2 ^ p := Int.mul_pos y2 (pow2_pos _)
  by_cases hk1 : s < 2 ^ w.toNat
  · have d1 : y.1 * 2 ^ q / (y.2 * 2 ^ p) = s := by
      rw [yv, show s * 2 ^ p * y.2 = s * (y.2 * 2 ^ p) by grind, Int.mul_ediv_cancel _ (by omega)]
    have d2 : y.1 * 2 ^ q % (y.2 * 2 ^ p) = 0 := by
      rw [Int.emod_def, d1, yv]
      grind
    obtain ⟨u1, u2⟩ := cell_at (n := y.1) (d := y.2) (w := w) (p := p) (q := q) y1 y2 hw (by rw [d1]; omega) (by rw [d1]; exact hk1)
    rw [u2, d2]
    exact (lowZ' dd).mpr rfl
  · have hk2 : s = 2 ^ w.toNat := by omega
    have ew : w.toNat = (w - 1).toNat + 1 := by omega
    have dd2 : 0 < y.2 * 2 ^ (p + 1) := Int.mul_pos y2 (pow2_pos _)
    have yv3 : y.1 * 2 ^ q = 2 ^ (w - 1).toNat * (y.2 * 2 ^ (p + 1)) := by
      rw [yv, hk2, ew, Int.pow_succ, Int.pow_succ]
      grind
    have d1 : y.1 * 2 ^ q / (y.2 * 2 ^ (p + 1)) = 2 ^ (w - 1).toNat := by
      rw [yv3, Int.mul_ediv_cancel _ (by omega)]
    have d2 : y.1 * 2 ^ q % (y.2 * 2 ^ (p + 1)) = 0 := by
      rw [Int.emod_def, d1, yv3]
      grind
    obtain ⟨u1, u2⟩ := cell_at (n := y.1) (d := y.2) (w := w) (p := p + 1) (q := q) y1 y2 hw (by rw [d1]; omega) (by rw [d1, ew, Int.pow_succ]; have := pow2_pos (w - 1).toNat; omega)
    rw [u2, d2]
    exact (lowZ' dd2).mpr rfl
theorem thr_step {n d w : Int} (T : Bool → Th) (h : Nu n d) (hw : 1 ≤ w) : ∃ s, thrI n d w T = powI s (cellI n d w).2 ∧ 2 ^ (w - 1).toNat ≤ s ∧ s ≤ 2 ^ w.toNat ∧ (s = (cellI n d w).1 ∨ s = (cellI n d w).1 + 1) := by
  obtain ⟨_, c2, c3, _⟩ := cellI_spec h.n0 h.d0 hw
  refine ⟨_, rfl, ?_, ?_, ?_⟩ <;> split <;> omega
theorem thr_nu {n d w : Int} (T : Bool → Th) (h : Nu n d) (hw : 1 ≤ w) : Nu (thrI n d w T).1 (thrI n d w T).2 ∧ (posI (thrI n d w T).1 (thrI n d w T).2 w).1 = 0 := by
  obtain ⟨s, e, h1, h2, _⟩ := thr_step T h hw
  rw [e]
  obtain ⟨y1, y2, y3⟩ := pow_pos (k := s) (e := (cellI n d w).2) (Int.lt_of_lt_of_le (pow2_pos _) h1)
  exact ⟨⟨y1, y2, y3⟩, pow_fits hw h1 h2⟩
theorem round_nu {n d w : Int} (r : Ru) (h : Nu n d) (hw : 1 ≤ w) : Nu (roundI n d w r).1 (roundI n d w r).2 ∧ (posI (roundI n d w r).1 (roundI n d w r).2 w).1 = 0 := by
  rw [thr_round r h.n0 h.d0 h.g hw]
  exact thr_nu _ h hw
theorem fits_mono {n d w w' : Int} (h : Nu n d) (hw : 1 ≤ w) (hl : w ≤ w') (f : (posI n d w).1 = 0) : (posI n d w').1 = 0 := by
  rw [pos_lw h.n0 h.d0 h.g hw] at f
  rw [pos_lw h.n0 h.d0 h.g (by omega)]
  exact ⟨f.1, by omega⟩
theorem round_self {n d w : Int} (r : Ru) (f : (posI n d w).1 = 0) : roundI n d w r = (n, d) := by
  unfold roundI endsI
  rw [if_pos f]
  split <;> rfl
def applI (n d : Int) : List (Int × Ru) → Int × Int
  | [] => (n, d)
  | s :: c => applI (roundI n d s.1 s.2).1 (roundI n d s.1 s.2).2 c
def stagI (n d : Int) : List (Int × Ru) → List (Int × Int)
  | [] => []
  | s :: c => roundI n d s.1 s.2 :: stagI (roundI n d s.1 s.2).1 (roundI n d s.1 s.2).2 c
def trimI : Option Int → List (Int × Ru) → List (Int × Ru)
  | _, [] => []
  | none, s :: c => s :: trimI (some s.1) c
  | some l, s :: c => if s.1 < l then s :: trimI (some s.1) c else trimI (some l) c
/-- a chain's widths -/
def Wds (c : List (Int × Ru)) : Prop := ∀ s ∈ c, 1 ≤ s.1 ∧ s.1 ≤ 100
theorem Wds.hd {s : Int × Ru} {c : List (Int × Ru)} (h : Wds (s :: c)) : 1 ≤ s.1 ∧ s.1 ≤ 100 := h s (List.mem_cons_self ..)
theorem Wds.tl {s : Int × Ru} {c : List (Int × Ru)} (h : Wds (s :: c)) : Wds c := fun t ht => h t (List.mem_cons_of_mem _ ht)
theorem trim_some {l : Int} (hl : 1 ≤ l) : ∀ {c : List (Int × Ru)} {n d : Int}, Wds c → Nu n d → (posI n d l).1 = 0 → applI n d c = applI n d (trimI (some l) c)
  | [], _, _, _, _, _ => rfl
  | s :: c, n, d, hw, h, f => by
    obtain ⟨r1, r2⟩ := round_nu s.2 h hw.hd.1
    unfold trimI
    by_cases q : s.1 < l
    · rw [if_pos q]
      show applI _ _ c = applI _ _ (trimI (some s.1) c)
      exact trim_some hw.hd.1 hw.tl r1 r2
    · rw [if_neg q]
      show applI (roundI n d s.1 s.2).1 (roundI n d s.1 s.2).2 c = _
      rw [round_self s.2 (fits_mono h hl (by omega) f)]
      exact trim_some hl hw.tl h f
theorem trim_law {c : List (Int × Ru)} {n d : Int} (hw : Wds c) (h : Nu n d) : applI n d c = applI n d (trimI none c) := by
  cases c with
  | nil => rfl
  | cons s c =>
    obtain ⟨r1, r2⟩ := round_nu s.2 h hw.hd.1
    exact trim_some hw.hd.1 hw.tl r1 r2
def Fall (w : Int) : List (Int × Ru) → Prop
  | [] => True
  | s :: c => 1 ≤ s.1 ∧ s.1 < w ∧ Fall s.1 c
theorem trim_fall : ∀ {c : List (Int × Ru)} {l : Int}, Wds c → Fall l (trimI (some l) c)
  | [], _, _ => trivial
  | s :: c, l, hw => by
    unfold trimI
    by_cases q : s.1 < l
    · rw [if_pos q]
      exact ⟨hw.hd.1, q, trim_fall hw.tl⟩
    · rw [if_neg q]
      exact trim_fall hw.tl
def thF (w : Int) (T : Bool → Th) : List (Int × Ru) → Int × (Bool → Th)
  | [] => (w, T)
  | s :: c => thF s.1 (combI T s.2 (w - s.1).toNat) c
theorem thF_law : ∀ {c : List (Int × Ru)} {w n d : Int} {T : Bool → Th}, (∀ b, (T b).Ok) → 1 ≤ w → Fall w c → Nu n d → applI (thrI n d w T).1 (thrI n d w T).2 c = thrI n d (thF w T c).1 (thF w T c).2
  | [], _, _, _, _, _, _, _, _ => rfl
  | s :: c, w, n, d, T, hT, hw, hf, h => by
    obtain ⟨f1, f2, f3⟩ := hf
    obtain ⟨t1, t2⟩ := thr_nu T h hw
    show applI (roundI _ _ s.1 s.2).1 (roundI _ _ s.1 s.2).2 c = _
    have e : roundI (thrI n d w T).1 (thrI n d w T).2 s.1 s.2 = thrI n d s.1 (combI T s.2 (w - s.1).toNat) := by
      rw [thr_round s.2 t1.n0 t1.d0 t1.g f1]
      have := comb_law hT (r := s.2) (w := s.1) (far := (w - s.1).toNat) h.n0 h.d0 f1 (by omega)
      rw [show s.1 + ((w - s.1).toNat : Int) = w by omega] at this
      exact this
    rw [e]
    exact thF_law (fun b => comb_ok hT (by omega) b) f1 f3 h
theorem thF_ok : ∀ {c : List (Int × Ru)} {w : Int} {T : Bool → Th}, (∀ b, (T b).Ok) → Fall w c → ∀ b, ((thF w T c).2 b).Ok
  | [], _, _, hT, _, b => hT b
  | s :: c, w, T, hT, hf, b => thF_ok (fun b => comb_ok hT (by have := hf.2.1; omega) b) hf.2.2 b
/-- the whole chain by thresholds -/
def chT : List (Int × Ru) → Int × (Bool → Th)
  | [] => (1, byR .dn)
  | s :: c => thF s.1 (byR s.2) (trimI (some s.1) c)
theorem chain_law {c : List (Int × Ru)} {n d : Int} (hc : c ≠ []) (hw : Wds c) (h : Nu n d) : applI n d c = thrI n d (chT c).1 (chT c).2 := by
  cases c with
  | nil => exact absurd rfl hc
  | cons s c =>
    rw [trim_law hw h]
    show applI (roundI n d s.1 s.2).1 (roundI n d s.1 s.2).2 (trimI (some s.1) c) = _
    rw [thr_round s.2 h.n0 h.d0 h.g hw.hd.1]
    exact thF_law (byR_ok _) hw.hd.1 (trim_fall hw.tl) h
theorem chT_ok {c : List (Int × Ru)} (hw : Wds c) (b : Bool) : ((chT c).2 b).Ok := by
  cases c with
  | nil => exact byR_ok .dn b
  | cons s c => exact thF_ok (byR_ok _) (trim_fall hw.tl) b
/-- its width: the least -/
theorem thF_min : ∀ {c : List (Int × Ru)} {w : Int} {T : Bool → Th}, (thF w T (trimI (some w) c)).1 ≤ w ∧ (∀ s ∈ c, (thF w T (trimI (some w) c)).1 ≤ s.1) ∧ ((thF w T (trimI (some w) c)).1 = w ∨ ∃ s ∈ c, (thF w T (trimI (some w) c)).1 = s.1)
  | [], w, T => by
    have e : (thF w T (trimI (some w) [])).1 = w := rfl
    refine ⟨by omega, fun s hs => absurd hs (by simp), .inl e⟩
  | s :: c, w, T => by
    unfold trimI
    by_cases q : s.1 < w
    · rw [if_pos q]
      show (thF s.1 _ _).1 ≤ w ∧ (∀ s' ∈ s :: c, (thF s.1 _ _).1 ≤ s'.1) ∧ ((thF s.1 _ _).1 = w ∨ ∃ s' ∈ s :: c, (thF s.1 _ _).1 = s'.1)
      obtain ⟨h1, h2, h3⟩ := thF_min (c := c) (w := s.1) (T := combI T s.2 (w - s.1).toNat)
      refine ⟨by omega, fun s' hs' => ?_, .inr ?_⟩
      · rcases List.mem_cons.mp hs' with rfl | hs'
        · exact h1
        · exact h2 _ hs'
      · rcases h3 with h3 | ⟨s', hs', h3⟩
        · exact ⟨s, List.mem_cons_self .., h3⟩
        · exact ⟨s', List.mem_cons_of_mem _ hs', h3⟩
    · rw [if_neg q]
      obtain ⟨h1, h2, h3⟩ := thF_min (c := c) (w := w) (T := T)
      refine ⟨h1, fun s' hs' => ?_, ?_⟩
      · rcases List.mem_cons.mp hs' with rfl | hs'
        · omega
        · exact h2 _ hs'
      · rcases h3 with h3 | ⟨s', hs', h3⟩
        · exact .inl h3
        · exact .inr ⟨s', List.mem_cons_of_mem _ hs', h3⟩
theorem chT_min {c : List (Int × Ru)} (hc : c ≠ []) : (∀ s ∈ c, (chT c).1 ≤ s.1) ∧ ∃ s ∈ c, (chT c).1 = s.1 := by
  cases c with
  | nil => exact absurd rfl hc
  | cons s c =>
    obtain ⟨h1, h2, h3⟩ := thF_min (c := c) (w := s.1) (T := byR s.2)
    refine ⟨fun s' hs' => ?_, ?_⟩
    · rcases List.mem_cons.mp hs' with rfl | hs'
      · exact h1
      · exact h2 _ hs'
    · rcases h3 with h3 | ⟨s', hs', h3⟩
      · exact ⟨s, List.mem_cons_self .., h3⟩
      · exact ⟨s', List.mem_cons_of_mem _ hs', h3⟩
/-- how great a threshold's denominator is; in lowest terms -/
theorem low_gcd {n d : Int} (hd : 0 < d) : Int.gcd (low n d).1 (low n d).2 = 1 ∧ 0 < (low n d).2 ∧ (low n d).2 ≤ d := by
  obtain ⟨u, hu⟩ : (Int.gcd n d : Int) ∣ n := Int.gcd_dvd_left n d
  obtain ⟨v, hv⟩ : (Int.gcd n d : Int) ∣ d := Int.gcd_dvd_right n d
  have g0 := gcd_pos (a := n) hd
  have e : low n d = (u, v) := by
    unfold low
    refine Prod.ext ?_ ?_
    · show n / (Int.gcd n d : Int) = u
      generalize (Int.gcd n d : Int) = g at *
      rw [hu, Int.mul_ediv_cancel_left _ (by omega)]
    · show d / (Int.gcd n d : Int) = v
      generalize (Int.gcd n d : Int) = g at *
      rw [hv, Int.mul_ediv_cancel_left _ (by omega)]
  have g1 : (Int.gcd n d) = (Int.gcd n d) * Int.gcd u v := by
    have h := Int.gcd_mul_left (Int.gcd n d : Int) u v
    rw [← hu, ← hv] at h
    simpa using h
  rw [e]
  refine ⟨?_, ?_, ?_⟩
  · have : 0 < Int.gcd n d := by omega
    show Int.gcd u v = 1
    have h2 : Int.gcd n d * 1 = Int.gcd n d * Int.gcd u v := by rw [Nat.mul_one]; exact g1
    exact (Nat.eq_of_mul_eq_mul_left this h2).symm
  · show 0 < v
    generalize (Int.gcd n d : Int) = g at *
    rw [hv] at hd
    exact Int.pos_of_mul_pos_right hd g0
  · show v ≤ d
    have v0 : 0 < v := by
      generalize (Int.gcd n d : Int) = g at *
      rw [hv] at hd
      exact Int.pos_of_mul_pos_right hd g0
    have : 1 * v ≤ (Int.gcd n d : Int) * v := Int.mul_le_mul_of_nonneg_right (by omega) (Int.le_of_lt v0)
    rw [← hv] at this
    omega
structure ThB (m : Nat) (T : Bool → Th) : Prop where
  ok : ∀ b, (T b).Ok
  g : ∀ b, Int.gcd (T b).n (T b).d = 1
  l : ∀ b, (T b).d ≤ 2 ^ m
theorem byR_B (r : Ru) : ThB 1 (byR r) := ⟨byR_ok r, fun b => by cases r <;> cases b <;> decide, fun b => by cases r <;> cases b <;> decide⟩
theorem comb_B {m far : Nat} {T : Bool → Th} {r : Ru} (h : ThB m T) (hf : 1 ≤ far) : ThB (m + far) (combI T r far) := by
  refine ⟨comb_ok h.ok hf, fun b => ?_, fun b => ?_⟩
  · exact (low_gcd (Int.mul_pos (h.ok _).d0 (pow2_pos far))).1
  · refine Int.le_trans (low_gcd (Int.mul_pos (h.ok _).d0 (pow2_pos far))).2.2 ?_
    rw [Int.pow_add]
    exact Int.mul_le_mul_of_nonneg_right (h.l _) (Int.le_of_lt (pow2_pos far))
theorem thF_B : ∀ {c : List (Int × Ru)} {w : Int} {m : Nat} {T : Bool → Th}, ThB m T → Fall w c → 1 ≤ w → ∃ m' : Nat, ThB m' (thF w T c).2 ∧ (m' : Int) ≤ m + w ∧ 1 ≤ (thF w T c).1 ∧ (thF w T c).1 ≤ w
  | [], w, m, T, h, _, hw => ⟨m, h, by omega, hw, Int.le_refl _⟩
  | s :: c, w, m, T, h, hf, hw => by
    obtain ⟨f1, f2, f3⟩ := hf
    obtain ⟨m', h1, h2, h3, h4⟩ := thF_B (c := c) (comb_B (r := s.2) (far := (w - s.1).toNat) h (by omega)) f3 f1
    exact ⟨m', h1, by omega, h3, by show (thF s.1 _ c).1 ≤ w; omega⟩
theorem ThB.mono {m m' : Nat} {T : Bool → Th} (h : ThB m T) (hm : m ≤ m') : ThB m' T := ⟨h.ok, h.g, fun b => Int.le_trans (h.l b) (pow_le2 hm)⟩
theorem chT_B {c : List (Int × Ru)} (hc : c ≠ []) (hw : Wds c) : ThB 101 (chT c).2 ∧ 1 ≤ (chT c).1 ∧ (chT c).1 ≤ 100 := by
  cases c with
  | nil => exact absurd rfl hc
  | cons s c =>
    obtain ⟨h1, h2⟩ := hw.hd
    obtain ⟨m, k1, k2, k3, k4⟩ := thF_B (byR_B s.2) (trim_fall (l := s.1) hw.tl) h1
    exact ⟨k1.mono (by omega), k3, by show (thF s.1 _ _).1 ≤ 100; omega⟩
/-! the values stay between 2^-a and 2^a -/
structure Vb (a : Nat) (n d : Int) : Prop where
  hi : n ≤ d * 2 ^ a
  lo : d ≤ n * 2 ^ a
theorem vb_e {n d w : Int} {a : Nat} (h : Nu n d) (v : Vb a n d) (h1 : 1 ≤ w) (h2 : w ≤ 100) : -(a : Int) - 100 ≤ (cellI n d w).2 ∧ (cellI n d w).2 ≤ a := by
  obtain ⟨p, q, he⟩ : ∃ p q : Nat, (cellI n d w).2 = (p : Int) - q := ⟨((cellI n d w).2).toNat, (-(cellI n d w).2).toNat, by omega⟩
  obtain ⟨c1, c2, c3, c4⟩ := cell_pq h.n0 h.d0 h1 p q he
  have hb := Int.mul_pos h.d0 (pow2_pos p)
  have hd := h.d0
  rw [c1] at c2 c3
  have x1 := (Int.le_ediv_iff_mul_le hb).mp c2
  have x2 := (Int.ediv_lt_iff_lt_mul hb).mp c3
  have y1 : (w - 1).toNat + p < a + q + 1 := by
    refine pow_lt_pow2 ?_
    refine Int.lt_of_mul_lt_mul_left (a := d) ?_ (Int.le_of_lt hd)
    have := Int.mul_le_mul_of_nonneg_right v.hi (Int.le_of_lt (pow2_pos q))
    have z := Int.mul_pos hd (pow2_pos (a + q))
    rw [Int.pow_succ, Int.pow_add]
    rw [Int.pow_add] at z ⊢
    grind
  have y2 : q < w.toNat + p + a := by
    refine pow_lt_pow2 ?_
    refine Int.lt_of_mul_lt_mul_left (a := d) ?_ (Int.le_of_lt hd)
    have := Int.mul_le_mul_of_nonneg_right v.lo (Int.le_of_lt (pow2_pos q))
    have z := Int.mul_lt_mul_of_pos_right x2 (pow2_pos a)
    rw [Int.pow_add, Int.pow_add]
    grind
  omega
theorem vb_round {n d w : Int} {a : Nat} (r : Ru) (h : Nu n d) (v : Vb a n d) (h1 : 1 ≤ w) : Vb a (roundI n d w r).1 (roundI n d w r).2 := by
  by_cases f : (posI n d w).1 = 0
  · rw [round_self r f]
    exact v
  rw [thr_round r h.n0 h.d0 h.g h1]
  obtain ⟨s, e, s1, s2, s3⟩ := thr_step (byR r) h h1
  obtain ⟨p, q, he⟩ : ∃ p q : Nat, (cellI n d w).2 = (p : Int) - q := ⟨((cellI n d w).2).toNat, (-(cellI n d w).2).toNat, by omega⟩
  obtain ⟨c1, c2, c3, c4⟩ := cell_pq h.n0 h.d0 h1 p q he
  have hb := Int.mul_pos h.d0 (pow2_pos p)
  have hd := h.d0
  have P0 := pow2_pos p
  have Q0 := pow2_pos q
  obtain ⟨y1, y2, y3⟩ := pow_pos (k := s) (e := (cellI n d w).2) (Int.lt_of_lt_of_le (pow2_pos _) s1)
  have yv := pow_val (k := s) he
  rw [e]
  generalize powI s (cellI n d w).2 = y at *
  rw [c4, lowZ' hb] at f
  have m0 := Int.emod_nonneg (n * 2 ^ q) (show d * 2 ^ p ≠ 0 by omega)
  have hm := Int.emod_def (n * 2 ^ q) (d * 2 ^ p)
  rw [← c1] at hm
  have x2 := (Int.ediv_lt_iff_lt_mul hb).mp (by rw [← c1]; exact c3)
  generalize hk : (cellI n d w).1 = k at *
  have ew : w.toNat = (w - 1).toNat + 1 := by omega
  constructor
  · have u1 : (w - 1).toNat + p < a + q := by
      refine pow_lt_pow2 ?_
      refine Int.lt_of_mul_lt_mul_left (a := d) ?_ (Int.le_of_lt hd)
      have z1 := Int.mul_le_mul_of_nonneg_right v.hi (Int.le_of_lt Q0)
      have z2 := Int.mul_le_mul_of_nonneg_right c2 (Int.le_of_lt hb)
      rw [Int.pow_add, Int.pow_add]
      grind
    have u2 : (2 : Int) ^ w.toNat * 2 ^ p ≤ 2 ^ a * 2 ^ q := by
      rw [← Int.pow_add, ← Int.pow_add]
      exact pow_le2 (by omega)
    have u3 := Int.mul_le_mul_of_nonneg_right s2 (Int.le_of_lt P0)
    have u4 := Int.mul_le_mul_of_nonneg_right (Int.le_trans u3 u2) (Int.le_of_lt y2)
    refine Int.le_of_mul_le_mul_right (a := 2 ^ q) ?_ Q0
    rw [yv]
    grind
  · have u1 : q < w.toNat + p + a := by
      refine pow_lt_pow2 ?_
      refine Int.lt_of_mul_lt_mul_left (a := d) ?_ (Int.le_of_lt hd)
      have := Int.mul_le_mul_of_nonneg_right v.lo (Int.le_of_lt Q0)
      have z := Int.mul_lt_mul_of_pos_right x2 (pow2_pos a)
      rw [Int.pow_add, Int.pow_add]
      grind
    have u2 : (2 : Int) ^ q ≤ 2 ^ (w - 1).toNat * 2 ^ p * 2 ^ a := by
      rw [← Int.pow_add, ← Int.pow_add]
      exact pow_le2 (by omega)
    have u3 := Int.mul_le_mul_of_nonneg_right (Int.mul_le_mul_of_nonneg_right s1 (Int.le_of_lt P0)) (Int.le_of_lt (pow2_pos a))
    have u4 := Int.mul_le_mul_of_nonneg_right (Int.le_trans u2 u3) (Int.le_of_lt y2)
    refine Int.le_of_mul_le_mul_right (a := 2 ^ q) ?_ Q0
    rw [show y.1 * 2 ^ a * 2 ^ q = y.1 * 2 ^ q * 2 ^ a by grind, yv]
    grind
end Z

namespace Z
open L2 PySem PySem.Spec PyProof.Rows
open Evl (Ex ex_l ex_t ex_rd fresh_back)
/-! ### in, not in: data of any depth -/
def fInD (neg : Bool) : BinF := fun d e post => match e with
  | .tuple es => SeqAt.shaped d = true ∧ SeqAt.shaped (.tuple es) = true ∧ post (.bool (if neg then !inD d es else inD d es))
  | .list es => SeqAt.shaped d = true ∧ SeqAt.shaped (.list es) = true ∧ post (.bool (if neg then !inD d es else inD d es))
  | _ => False
def rInX (K : Fg) (neg : Bool) : R2 := fun x y H Q => ∃ d e es, Dp K H x d ∧ Dp K H y e ∧ (e = .list es ∨ e = .tuple es) ∧ SeqAt.shaped d = true ∧ SeqAt.shaped e = true ∧ Q (.bl (if neg then !inD d es else inD d es)) H
section
variable {X : Cx} {a b : Expr} {ta tb : DE} {pos : Pos}
theorem op_inX (hu : X.A.units + 65 < cLine) : OpR X (compareOp .In) (rInX X.K false) := by
  intro pins s σ H x y v u Q I rx ry h
  obtain ⟨d, e, es, hd, he, ht, sd, se, q⟩ := h
  obtain ⟨as, r1⟩ := Dp.reads I d x v hd rx
  obtain ⟨bs, r2⟩ := Dp.reads I e y u he ry
  rcases ht with rfl | rfl
  · exact SeqAt.in_list_reads r2 r1 (SeqAt.canLay_of_shaped se) (SeqAt.canLay_of_shaped sd) (room_in_shaped sd hu) ⟨.bl _, H, I, rfl, q⟩
  · exact SeqAt.in_tuple_reads r2 r1 (SeqAt.canLay_of_shaped se) (SeqAt.canLay_of_shaped sd) (room_in_shaped sd hu) ⟨.bl _, H, I, rfl, q⟩
theorem op_notInX (hu : X.A.units + 65 < cLine) : OpR X (compareOp .NotIn) (rInX X.K true) := by
  intro pins s σ H x y v u Q I rx ry h
  obtain ⟨d, e, es, hd, he, ht, sd, se, q⟩ := h
  obtain ⟨as, r1⟩ := Dp.reads I d x v hd rx
  obtain ⟨bs, r2⟩ := Dp.reads I e y u he ry
  rcases ht with rfl | rfl
  · exact SeqAt.notIn_list_reads r2 r1 (SeqAt.canLay_of_shaped se) (SeqAt.canLay_of_shaped sd) (room_in_shaped sd hu) ⟨.bl _, H, I, rfl, q⟩
  · exact SeqAt.notIn_tuple_reads r2 r1 (SeqAt.canLay_of_shaped se) (SeqAt.canLay_of_shaped sd) (room_in_shaped sd hu) ⟨.bl _, H, I, rfl, q⟩
theorem ok_inX {K : Fg} {neg : Bool} : BinOk K (rInX K neg) (fInD neg) := fun F H x y d e post Q hx r1 r2 hf k => by
  cases e with
  | tuple es =>
    obtain ⟨h1, h2, h3⟩ := hf
    exact ⟨d, _, es, r1.dp hx d x (shaped_lay h1), r2.dp hx _ y (shaped_lay h2), .inr rfl, h1, h2, k _ _ H F h3 (Gr.refl hx) (.bl _)⟩
  | list es =>
    obtain ⟨h1, h2, h3⟩ := hf
    exact ⟨d, _, es, r1.dp hx d x (shaped_lay h1), r2.dp hx _ y (shaped_lay h2), .inl rfl, h1, h2, k _ _ H F h3 (Gr.refl hx) (.bl _)⟩
  | _ => exact hf.elim
theorem Room.units1 {k : Nat} {A : Around} (r : Room k A) : A.units + 65 < cLine := by have := r.un; omega
theorem e_inX {k : Nat} (hr : Room k X.A) (ha : PE X a (up X.K ta)) (hb : PE X b (up X.K tb)) (hm : behindInMarks .In b = false := by rfl) : PE X (.Compare a [.In] [b] pos) (up X.K (dBin (fInD false) ta tb)) := e_cmp (op_inX (Room.units1 hr)) ok_inX ha hb hm
theorem e_notinX {k : Nat} (hr : Room k X.A) (ha : PE X a (up X.K ta)) (hb : PE X b (up X.K tb)) (hm : behindInMarks .NotIn b = false := by rfl) : PE X (.Compare a [.NotIn] [b] pos) (up X.K (dBin (fInD true) ta tb)) := e_cmp (op_notInX (Room.units1 hr)) ok_inX ha hb hm
theorem t_inX {k : Nat} (hr : Room k X.A) (ha : PE X a (up X.K ta)) (hb : PE X b (up X.K tb)) (hm : behindInMarks .In b = false := by rfl) : PT X (.Compare a [.In] [b] pos) (upT X.K (dTest (dBin (fInD false) ta tb))) := t_cmp (op_inX (Room.units1 hr)) ok_inX ha hb hm
theorem t_notinX {k : Nat} (hr : Room k X.A) (ha : PE X a (up X.K ta)) (hb : PE X b (up X.K tb)) (hm : behindInMarks .NotIn b = false := by rfl) : PT X (.Compare a [.NotIn] [b] pos) (upT X.K (dTest (dBin (fInD true) ta tb))) := t_cmp (op_notInX (Room.units1 hr)) ok_inX ha hb hm
/-! ### a list times an int -/
def repD (ds : List Da) (n : Nat) : List Da := (List.replicate n ds).flatten
def fMulL : BinF := fun d e post => match d, e with
  | .list ds, .int i => 0 ≤ i ∧ i ≤ 1000000 ∧ ds.length * i.toNat ≤ 1000000 ∧ post (.list (repD ds i.toNat))
  | _, _ => False
theorem vals_app : ∀ {xs ys : List V} {us vs : List Value}, Vals xs us → Vals ys vs → Vals (xs ++ ys) (us ++ vs)
  | _, _, _, _, .nil, h => h
  | _, _, _, _, .cons h t, k => .cons h (vals_app t k)
theorem vals_rep {xs : List V} {us : List Value} (h : Vals xs us) : ∀ n : Nat, Vals ((List.replicate n xs).flatten) ((List.replicate n us).flatten)
  | 0 => .nil
  | n + 1 => by
    rw [List.replicate_succ, List.replicate_succ, List.flatten_cons, List.flatten_cons]
    exact vals_app h (vals_rep h n)
theorem rps_app {K : Fg} {F : Hp} : ∀ {xs ys : List V} {us vs : List Da}, Rps K F xs us → Rps K F ys vs → Rps K F (xs ++ ys) (us ++ vs)
  | _, _, _, _, .nil, h => h
  | _, _, _, _, .cons h t, k => .cons h (rps_app t k)
theorem rps_rep {K : Fg} {F : Hp} {xs : List V} {us : List Da} (h : Rps K F xs us) : ∀ n : Nat, Rps K F ((List.replicate n xs).flatten) ((List.replicate n us).flatten)
  | 0 => .nil
  | n + 1 => by
    rw [List.replicate_succ, List.replicate_succ, List.flatten_cons, List.flatten_cons]
    exact rps_app h (rps_rep h n)
theorem len_rep {α : Type} (xs : List α) : ∀ n : Nat, ((List.replicate n xs).flatten).length = xs.length * n
  | 0 => rfl
  | n + 1 => by
    rw [List.replicate_succ, List.flatten_cons, List.length_append, len_rep xs n, Nat.mul_succ]
    omega
theorem foldl_rep (items : Array Value) : ∀ (k : Nat) (acc : Array Value), List.foldl (fun x1 x2 => x1 ++ x2) acc (List.replicate k items) = (acc.toList ++ (List.replicate k items.toList).flatten).toArray
  | 0, acc => by simp
  | k + 1, acc => by simp [List.replicate_succ, foldl_rep items k, List.append_assoc]
theorem op_mulL : OpR X (binaryOp .Mult) (fun x y H Q => ∃ a xs i, x = V.ref a ∧ y = V.int i ∧ SqL X.K H a xs ∧ 0 ≤ i ∧ i ≤ 1000000 ∧ xs.length * i.toNat ≤ 1000000 ∧ ∀ p, H p = none → Q (.ref p) (upd H p (.lst ((List.replicate i.toNat xs).flatten)))) := by
  intro pins s σ H x y v u Q I rx ry h
  obtain ⟨a, xs, k, rfl, rfl, hs, k0, k1, kl, q⟩ := h
  obtain rfl : v = Value.ref a := rx
  obtain ⟨t, rfl⟩ := ry
  obtain ⟨its, rv, ⟨⟨cls, dd, data, sl⟩, n, ho, hc, hdn, hd⟩, hlen⟩ := I.list hs
  have hc1 : cls = Value.type "list" := hc
  have hd1 : data = Data.seq its.toArray n := hd
  subst hc1 hd1
  have hl := rv.length
  have hsl := sizeLine_eq
  have hm : its.toArray.size * k.toNat ≤ 1000000 := by rw [List.size_toArray, ← hl]; exact kl
  refine wpAny_binaryOp_repeat_ref (T := "list") (U := "int") (by decide) ⟨_, ho, rfl⟩ (fun s' => rfl) noFill_list_mul F.fills_int_mul F.slot_int_rmul repeat_list F.slot_int_index.lookup
    (call_meets F.slot_int_rmul rfl F.entry_int_rmul (F.args_int_rmul_2 _ _) (lm_int_rmul_list_any k t a its.toArray n dd sl)
      ⟨ho, rfl, ⟨_, ho, rfl⟩, call_meets F.slot_list_mul ⟨_, ho, rfl⟩ F.entry_list_mul (F.args_list_mul_2 _ _)
        (lm_list_mul_any a its.toArray n dd sl k t ?_ (by omega) (by simp only [Builtin.List.listTooLong, decide_eq_true_eq]; omega))
        ⟨ho, ?_⟩⟩)
  · have : Builtin.List.listFitsIndex k = true := by
      unfold Builtin.List.listFitsIndex
      simp
      constructor <;> omega
    rw [this]
    decide
  · have e : List.foldl (fun x1 x2 => x1 ++ x2) #[] (List.replicate (if its.toArray.isEmpty = true then 0 else k.toNat) its.toArray) = ((List.replicate k.toNat its).flatten).toArray := by
      rw [foldl_rep]
      cases its with
      | nil =>
        have : ∀ n : Nat, (List.replicate n ([] : List Value)).flatten = [] := fun n => by induction n <;> simp_all [List.replicate_succ]
        simp [this]
      | cons x xs => simp
    rw [e]
    refine ⟨.ref s.heap.objs.size, upd H s.heap.objs.size (.lst ((List.replicate k.toNat xs).flatten)), I.laid (t' := s.toks) (fun b o e => Heap.get?_push_of_some _ e) (Nat.le_refl _) ⟨?_, _, 0, ?_, Heap.get?_push_size _ rfl⟩, rfl, q _ (I.hok.fresh (Nat.le_refl _))⟩
    · rw [len_rep]
      omega
    · exact vals_rep rv _
theorem ok_mulL {K : Fg} : BinOk K (fun x y H Q => ∃ a xs i, x = V.ref a ∧ y = V.int i ∧ SqL K H a xs ∧ 0 ≤ i ∧ i ≤ 1000000 ∧ xs.length * i.toNat ≤ 1000000 ∧ ∀ p, H p = none → Q (.ref p) (upd H p (.lst ((List.replicate i.toNat xs).flatten)))) fMulL := fun F H x y d e post Q hx r1 r2 hf k => by
  cases d with
  | list ds =>
    cases e with
    | int i =>
      obtain ⟨h0, h1, h2, h3⟩ := hf
      cases r1 with
      | lst sq m =>
        rename_i aa xs
        cases r2
        refine ⟨_, xs, i, rfl, rfl, .inl (.inl (hx _ _ sq)), h0, h1, by rw [m.len]; exact h2, fun p hp => ?_⟩
        have gr := Gr.new (o := .lst ((List.replicate i.toNat xs).flatten)) hx hp
        exact k _ _ _ _ h3 gr (.lst upd_same ((rps_rep m _).up gr.f))
    | _ => exact hf.elim
  | _ => exact hf.elim
theorem e_mulL (ha : PE X a (up X.K ta)) (hb : PE X b (up X.K tb)) : PE X (.BinOp a .Mult b pos) (up X.K (dBin fMulL ta tb)) := e_bin op_mulL ok_mulL ha hb
end
/-! ### a comprehension with any target -/
theorem lc_mapT {sl : List (Option Sv)} {t : DG} {te : DE} (f : Da → Da) {Q : List Da → Option Nat → Prop} {fu : Option Nat} : ∀ {ds acc : List Da},
    (∀ x ∈ ds, ∀ (R : Rv → Gs → Prop) (N : Gs → Prop), (∀ g3 : Gs, g3.fu = fu → R (.val (f x)) g3) → t (.val x) ⟨sl, fu, false⟩ fun g1 => (true = true → te g1 R) ∧ (true = false → N g1)) → acc.length + ds.length ≤ 1000000 → Q (acc ++ ds.map f) fu → lcD sl t dYes te ds acc fu Q
  | [], acc, _, _, h => by rw [List.map_nil, List.append_nil] at h; exact h
  | x :: xs, acc, hs, hl, h => by
    have ih : lcD sl t dYes te xs (acc ++ [f x]) fu Q := lc_mapT f (fun y hy => hs y (List.mem_cons_of_mem _ hy)) (by rw [List.length_cons] at hl; rw [List.length_append, List.length_cons, List.length_nil]; omega) (by rw [List.append_assoc]; exact h)
    exact hs x List.mem_cons_self (fun r g3 => match r with
      | .val d => acc.length < 1000000 ∧ lcD sl t dYes te xs (acc ++ [d]) (fuN fu g3.fu) Q
      | _ => False) (fun g2 => lcD sl t dYes te xs acc (fuN fu g2.fu) Q) (fun g3 e => ⟨by rw [List.length_cons] at hl; omega, by rw [e, fuN_self]; exact ih⟩)
/-! ### chains as data -/
def stD (s : Int × Ru) : Da := .tuple [.int s.1, .str s.2.s]
def chD (c : List (Int × Ru)) : Da := .tuple (c.map stD)
theorem stD_inj {s s' : Int × Ru} (h : stD s = stD s') : s = s' := by
  obtain ⟨w, r⟩ := s
  obtain ⟨w', r'⟩ := s'
  simp only [stD, PyData.tuple.injEq, List.cons.injEq, PyData.int.injEq, PyData.str.injEq, and_true] at h
  obtain ⟨rfl, h⟩ := h
  refine Prod.ext rfl ?_
  revert h
  cases r <;> cases r' <;> first | exact fun _ => rfl | (intro h; exact absurd h (by decide +kernel))
/-- pairs of an int and a text: may be sorted -/
theorem pairs_sortable {ds : List Da} (h : ∀ d ∈ ds, ∃ (i : Int) (x : Str), d = .tuple [.int i, .str x] ∧ PyData.strOk x = true) :
    PySem.W.AllAlike ds ∧ PySem.W.Sortable ds ∧ ∀ d ∈ ds, d.canLay0 = true ∧ d.depth ≤ 50 := by
  refine ⟨fun d hd e he => ?_, .inl fun d hd => ?_, fun d hd => ?_⟩
  · obtain ⟨i, x, rfl, _⟩ := h d hd
    obtain ⟨j, y, rfl, _⟩ := h e he
    simp [PySem.W.alike, PySem.W.alikeAll]
  · obtain ⟨i, x, rfl, _⟩ := h d hd
    exact ⟨_, _, rfl⟩
  · obtain ⟨i, x, rfl, hx⟩ := h d hd
    refine ⟨?_, ?_⟩
    · simp [PyData.canLay0, PyData.canLayAll0, hx]
    · simp [PyData.depth, PyData.depthAll]
theorem ru_ok (r : Ru) : PyData.strOk r.s = true := by cases r <;> decide +kernel
end Z

namespace Z
open L2 PySem PySem.Spec PyProof.Rows
open Evl (Ex ex_l ex_t ex_rd fresh_back)
/-! ### numbers of bounded value, chains applied -/
theorem powB2 {k e : Int} {a : Nat} (hk : 0 < k) (bk : Bn 102 k) (h1 : -(a : Int) - 100 ≤ e) (h2 : e ≤ a) : 0 < (powI k e).1 ∧ 0 < (powI k e).2 ∧ Int.gcd (powI k e).1 (powI k e).2 = 1 ∧ Bn (a + 300) (powI k e).1 ∧ Bn (a + 300) (powI k e).2 := by
  obtain ⟨p, q⟩ := scI_pos (f := e) hk (show (0 : Int) < 1 by decide)
  obtain ⟨h3, h4, h5, h6, h7⟩ := low_pos p q
  have b1 : Bn (a + 300) (scI k 1 e).1 := (shlB bk).mono (by omega)
  have b2 : Bn (a + 300) (scI k 1 e).2 := (shlB (Bn.small (m := 64) (i := 1) (by decide) (by decide) (by decide))).mono (by omega)
  exact ⟨h3, h4, h5, b1.le (Int.le_of_lt h3) h6, b2.le (Int.le_of_lt h4) h7⟩
/-- a number of values from 2^-a to 2^a -/
structure NuB (a : Nat) (n d : Int) : Prop where
  nu : Nu n d
  v : Vb a n d
  bn : Bn (a + 300) n
  bd : Bn (a + 300) d
theorem bn_le {a : Nat} {n : Int} (h : Bn a n) (h0 : 0 < n) : n ≤ 2 ^ a := by
  have h1 := h.lt
  have e : ((2 ^ a : Nat) : Int) = (2 : Int) ^ a := by norm_cast
  omega
theorem NuB.of {a : Nat} {n d : Int} (hn : 0 < n) (hd : 0 < d) (hg : Int.gcd n d = 1) (bn : Bn a n) (bd : Bn a d) : NuB a n d := by
  have x := bn_le bn hn
  have y := bn_le bd hd
  have p := pow2_pos a
  refine ⟨⟨hn, hd, hg⟩, ⟨?_, ?_⟩, bn.mono (by omega), bd.mono (by omega)⟩
  · have := Int.mul_le_mul_of_nonneg_right (show 1 ≤ d by omega) (Int.le_of_lt p)
    omega
  · have := Int.mul_le_mul_of_nonneg_right (show 1 ≤ n by omega) (Int.le_of_lt p)
    omega
theorem NuB.mono {a b : Nat} {n d : Int} (h : NuB a n d) (hab : a ≤ b) : NuB b n d := by
  have p := pow_le2 hab
  have x := Int.mul_le_mul_of_nonneg_left p (Int.le_of_lt h.nu.d0)
  have y := Int.mul_le_mul_of_nonneg_left p (Int.le_of_lt h.nu.n0)
  have := h.v.hi
  have := h.v.lo
  exact ⟨h.nu, ⟨by omega, by omega⟩, h.bn.mono (by omega), h.bd.mono (by omega)⟩
theorem NuB.round {a : Nat} {n d w : Int} (h : NuB a n d) (r : Ru) (h1 : 1 ≤ w) (h2 : w ≤ 100) : NuB a (roundI n d w r).1 (roundI n d w r).2 := by
  have hv := vb_round r h.nu h.v h1
  have hn := (round_nu r h.nu h1).1
  by_cases f : (posI n d w).1 = 0
  · rw [round_self r f]
    exact h
  obtain ⟨e1, e2⟩ := vb_e h.nu h.v h1 h2
  obtain ⟨s, e, s1, s2, s3⟩ := thr_step (byR r) h.nu h1
  refine ⟨hn, hv, ?_, ?_⟩ <;> rw [thr_round r h.nu.n0 h.nu.d0 h.nu.g h1, e]
  all_goals
    have s0 : 0 < s := Int.lt_of_lt_of_le (pow2_pos _) s1
    have bs : Bn 102 s := (Bn.pow2 (n := w.toNat) (m := 102) (by omega)).le (Int.le_of_lt s0) s2
    obtain ⟨_, _, _, b1, b2⟩ := powB2 s0 bs e1 e2
  · exact b1
  · exact b2
structure Chn1 (c : List (Int × Ru)) : Prop where
  ne : c ≠ []
  len : c.length ≤ 12
  w : Wds c
theorem appl_B {a : Nat} : ∀ {c : List (Int × Ru)} {n d : Int}, Wds c → NuB a n d → NuB a (applI n d c).1 (applI n d c).2
  | [], _, _, _, h => h
  | s :: c, n, d, hw, h => by
    rw [applI]
    exact appl_B hw.tl (h.round s.2 hw.hd.1 hw.hd.2)
theorem appl_self : ∀ {c : List (Int × Ru)} {n d w : Int}, Nu n d → 1 ≤ w → (posI n d w).1 = 0 → (∀ s ∈ c, w ≤ s.1) → applI n d c = (n, d)
  | [], _, _, _, _, _, _, _ => rfl
  | s :: c, n, d, w, h, hw, f, hs => by
    rw [applI, round_self s.2 (fits_mono h hw (hs s List.mem_cons_self) f)]
    exact appl_self h hw f fun t ht => hs t (List.mem_cons_of_mem _ ht)
theorem appl_fits {c : List (Int × Ru)} {n d : Int} (hc : Chn1 c) (h : Nu n d) : (posI (applI n d c).1 (applI n d c).2 (chT c).1).1 = 0 := by
  rw [chain_law hc.ne hc.w h]
  exact (thr_nu _ h (chT_B hc.ne hc.w).2.1).2
theorem thr_ends {n d w : Int} {T : Bool → Th} (hT : ∀ b, (T b).Ok) (h : Nu n d) (hw : 1 ≤ w) : thrI n d w T = (endsI n d w).1 ∨ thrI n d w T = (endsI n d w).2 := by
  by_cases f : (posI n d w).1 = 0
  · rw [thr_self hT h.n0 h.d0 h.g hw f]
    unfold endsI
    rw [if_pos f]
    exact .inl rfl
  · obtain ⟨s, e, _, _, e2⟩ := thr_step T h hw
    rw [e]
    unfold endsI
    rw [if_neg f]
    rcases e2 with e2 | e2 <;> rw [e2]
    · exact .inl rfl
    · exact .inr rfl
theorem appl_ends {c : List (Int × Ru)} {n d : Int} (hc : Chn1 c) (h : Nu n d) : applI n d c = (endsI n d (chT c).1).1 ∨ applI n d c = (endsI n d (chT c).1).2 := by
  rw [chain_law hc.ne hc.w h]
  exact thr_ends (chT_ok hc.w) h (chT_B hc.ne hc.w).2.1
theorem ends_self {n d w : Int} (f : (posI n d w).1 = 0) : endsI n d w = ((n, d), (n, d)) := by
  unfold endsI
  rw [if_pos f]
theorem in_two {x a b : Int × Int} (h : x = a ∨ x = b) : inD (nm x) [nm a, nm b] = true := by
  unfold inD
  rw [List.any_cons, List.any_cons, List.any_nil, eqv_num, eqv_num]
  rcases h with rfl | rfl <;> simp
theorem shaped_nums (a b c d : Int) : SeqAt.shaped (.tuple [num a b, num c d]) = true := rfl
theorem eqv_nums (a b c d a' b' c' d' : Int) : (PyData.tuple [.tuple [.int a, .int b], .tuple [.int c, .int d]]).eqv (.tuple [.tuple [.int a', .int b'], .tuple [.int c', .int d']]) = (decide (a = a') && decide (b = b') && (decide (c = c') && decide (d = d'))) := by
  simp only [PyData.eqv, PyData.eqvAll]
  rw [Bool.eq_iff_iff]
  simp
end Z

namespace LAW
open Z L2 PySem PySem.Spec PyProof.Rows
open Evl (Ex ex_l ex_t ex_rd fresh_back)
def topS (i : Nat) : Stmt := PySem.Challenge.pw_stagedrounding_k62_whole_chains_by_defin.main.body.getD i (.Pass ⟨0, 0, 0, 0⟩)
/-! def is_int -/
abbrev st_is_int : Stmt := topS 8
abbrev N_is_int : List Str := ["value", "least"]
theorem sc_is_int : FnScope N_is_int ["value", "least"] (defScope st_is_int) := ⟨rfl, rfl, rfl, by decide +kernel, rfl, by decide +kernel, by decide +kernel⟩
/-! def common_divisor -/
abbrev st_common_divisor : Stmt := topS 9
abbrev N_common_divisor : List Str := ["one", "other"]
theorem sc_common_divisor : FnScope N_common_divisor ["one", "other"] (defScope st_common_divisor) := ⟨rfl, rfl, rfl, by decide +kernel, rfl, by decide +kernel, by decide +kernel⟩
/-! def lowest -/
abbrev st_lowest : Stmt := topS 10
abbrev N_lowest : List Str := ["n", "d", "divisor"]
theorem sc_lowest : FnScope N_lowest ["n", "d"] (defScope st_lowest) := ⟨rfl, rfl, rfl, by decide +kernel, rfl, by decide +kernel, by decide +kernel⟩
/-! def is_number -/
abbrev st_is_number : Stmt := topS 11
abbrev N_is_number : List Str := ["value", "part"]
theorem sc_is_number : FnScope N_is_number ["value"] (defScope st_is_number) := ⟨rfl, rfl, rfl, by decide +kernel, rfl, by decide +kernel, by decide +kernel⟩
/-! def is_width -/
abbrev st_is_width : Stmt := topS 12
abbrev N_is_width : List Str := ["value"]
theorem sc_is_width : FnScope N_is_width ["value"] (defScope st_is_width) := ⟨rfl, rfl, rfl, by decide +kernel, rfl, by decide +kernel, by decide +kernel⟩
/-! def check_number -/
abbrev st_check_number : Stmt := topS 13
abbrev N_check_number : List Str := ["value"]
theorem sc_check_number : FnScope N_check_number ["value"] (defScope st_check_number) := ⟨rfl, rfl, rfl, by decide +kernel, rfl, by decide +kernel, by decide +kernel⟩
/-! def check_width -/
abbrev st_check_width : Stmt := topS 14
abbrev N_check_width : List Str := ["value"]
theorem sc_check_width : FnScope N_check_width ["value"] (defScope st_check_width) := ⟨rfl, rfl, rfl, by decide +kernel, rfl, by decide +kernel, by decide +kernel⟩
/-! def scaled -/
abbrev st_scaled : Stmt := topS 15
abbrev N_scaled : List Str := ["number", "e", "n", "d"]
theorem sc_scaled : FnScope N_scaled ["number", "e"] (defScope st_scaled) := ⟨rfl, rfl, rfl, by decide +kernel, rfl, by decide +kernel, by decide +kernel⟩
/-! def power_number -/
abbrev st_power_number : Stmt := topS 16
abbrev N_power_number : List Str := ["k", "e", "n", "d"]
theorem sc_power_number : FnScope N_power_number ["k", "e"] (defScope st_power_number) := ⟨rfl, rfl, rfl, by decide +kernel, rfl, by decide +kernel, by decide +kernel⟩
/-! def cell_of -/
abbrev st_cell_of : Stmt := topS 17
abbrev N_cell_of : List Str := ["number", "width", "e", "n", "d"]
theorem sc_cell_of : FnScope N_cell_of ["number", "width"] (defScope st_cell_of) := ⟨rfl, rfl, rfl, by decide +kernel, rfl, by decide +kernel, by decide +kernel⟩
/-! def position_of -/
abbrev st_position_of : Stmt := topS 18
abbrev N_position_of : List Str := ["number", "width", "k", "e", "n", "d"]
theorem sc_position_of : FnScope N_position_of ["number", "width"] (defScope st_position_of) := ⟨rfl, rfl, rfl, by decide +kernel, rfl, by decide +kernel, by decide +kernel⟩
/-! def is_rule -/
abbrev st_is_rule : Stmt := topS 27
abbrev N_is_rule : List Str := ["value"]
theorem sc_is_rule : FnScope N_is_rule ["value"] (defScope st_is_rule) := ⟨rfl, rfl, rfl, by decide +kernel, rfl, by decide +kernel, by decide +kernel⟩
/-! def ends_of -/
abbrev st_ends_of : Stmt := topS 28
abbrev N_ends_of : List Str := ["number", "width", "k", "e"]
theorem sc_ends_of : FnScope N_ends_of ["number", "width"] (defScope st_ends_of) := ⟨rfl, rfl, rfl, by decide +kernel, rfl, by decide +kernel, by decide +kernel⟩
/-! def goes_up -/
abbrev st_goes_up : Stmt := topS 29
abbrev N_goes_up : List Str := ["k", "place", "rule", "n", "d"]
theorem sc_goes_up : FnScope N_goes_up ["k", "place", "rule"] (defScope st_goes_up) := ⟨rfl, rfl, rfl, by decide +kernel, rfl, by decide +kernel, by decide +kernel⟩
/-! def round_once -/
abbrev st_round_once : Stmt := topS 30
abbrev N_round_once : List Str := ["number", "width", "rule", "lower", "upper", "k"]
theorem sc_round_once : FnScope N_round_once ["number", "width", "rule"] (defScope st_round_once) := ⟨rfl, rfl, rfl, by decide +kernel, rfl, by decide +kernel, by decide +kernel⟩
/-! def neighbours -/
abbrev st_neighbours : Stmt := topS 31
abbrev N_neighbours : List Str := ["number", "width"]
theorem sc_neighbours : FnScope N_neighbours ["number", "width"] (defScope st_neighbours) := ⟨rfl, rfl, rfl, by decide +kernel, rfl, by decide +kernel, by decide +kernel⟩
/-! def is_step -/
abbrev st_is_step : Stmt := topS 35
abbrev N_is_step : List Str := ["value"]
theorem sc_is_step : FnScope N_is_step ["value"] (defScope st_is_step) := ⟨rfl, rfl, rfl, by decide +kernel, rfl, by decide +kernel, by decide +kernel⟩
/-! def is_chain -/
abbrev st_is_chain : Stmt := topS 36
abbrev N_is_chain : List Str := ["value", "step"]
theorem sc_is_chain : FnScope N_is_chain ["value"] (defScope st_is_chain) := ⟨rfl, rfl, rfl, by decide +kernel, rfl, by decide +kernel, by decide +kernel⟩
/-! def check_chain -/
abbrev st_check_chain : Stmt := topS 37
abbrev N_check_chain : List Str := ["value"]
theorem sc_check_chain : FnScope N_check_chain ["value"] (defScope st_check_chain) := ⟨rfl, rfl, rfl, by decide +kernel, rfl, by decide +kernel, by decide +kernel⟩
/-! def last_width -/
abbrev st_last_width : Stmt := topS 38
abbrev N_last_width : List Str := ["chain", "width", "rule"]
theorem sc_last_width : FnScope N_last_width ["chain"] (defScope st_last_width) := ⟨rfl, rfl, rfl, by decide +kernel, rfl, by decide +kernel, by decide +kernel⟩
/-! def stages -/
abbrev st_stages : Stmt := topS 39
abbrev N_stages : List Str := ["number", "chain", "found", "width", "rule"]
theorem sc_stages : FnScope N_stages ["number", "chain"] (defScope st_stages) := ⟨rfl, rfl, rfl, by decide +kernel, rfl, by decide +kernel, by decide +kernel⟩
/-! def applied -/
abbrev st_applied : Stmt := topS 40
abbrev N_applied : List Str := ["number", "chain"]
theorem sc_applied : FnScope N_applied ["number", "chain"] (defScope st_applied) := ⟨rfl, rfl, rfl, by decide +kernel, rfl, by decide +kernel, by decide +kernel⟩
/-! def _law_source -/
abbrev st__law_source : Stmt := topS 42
abbrev N__law_source : List Str := ["_law_script", "_law_k", "_law_given", "_law_digits"]
theorem sc__law_source : FnScope N__law_source ["_law_script", "_law_k"] (defScope st__law_source) := ⟨rfl, rfl, rfl, by decide +kernel, rfl, by decide +kernel, by decide +kernel⟩
/-! def _law_draw -/
abbrev st__law_draw : Stmt := topS 43
abbrev N__law_draw : List Str := ["_law_source_here", "_law_size", "_law_digit", "_law_turn", "_law_mixed"]
theorem sc__law_draw : FnScope N__law_draw ["_law_source_here", "_law_size"] (defScope st__law_draw) := ⟨rfl, rfl, rfl, by decide +kernel, rfl, by decide +kernel, by decide +kernel⟩
/-! def _law_pick -/
abbrev st__law_pick : Stmt := topS 44
abbrev N__law_pick : List Str := ["_law_source_here", "_law_some"]
theorem sc__law_pick : FnScope N__law_pick ["_law_source_here", "_law_some"] (defScope st__law_pick) := ⟨rfl, rfl, rfl, by decide +kernel, rfl, by decide +kernel, by decide +kernel⟩
/-! def _law_divisor -/
abbrev st__law_divisor : Stmt := topS 45
abbrev N__law_divisor : List Str := ["_law_one", "_law_other"]
theorem sc__law_divisor : FnScope N__law_divisor ["_law_one", "_law_other"] (defScope st__law_divisor) := ⟨rfl, rfl, rfl, by decide +kernel, rfl, by decide +kernel, by decide +kernel⟩
/-! def _law_low -/
abbrev st__law_low : Stmt := topS 46
abbrev N__law_low : List Str := ["_law_n", "_law_d", "_law_by"]
theorem sc__law_low : FnScope N__law_low ["_law_n", "_law_d"] (defScope st__law_low) := ⟨rfl, rfl, rfl, by decide +kernel, rfl, by decide +kernel, by decide +kernel⟩
/-! def _law_scaled -/
abbrev st__law_scaled : Stmt := topS 47
abbrev N__law_scaled : List Str := ["_law_number_here", "_law_e", "_law_n", "_law_d"]
theorem sc__law_scaled : FnScope N__law_scaled ["_law_number_here", "_law_e"] (defScope st__law_scaled) := ⟨rfl, rfl, rfl, by decide +kernel, rfl, by decide +kernel, by decide +kernel⟩
/-! def _law_number -/
abbrev st__law_number : Stmt := topS 48
abbrev N__law_number : List Str := ["_law_source_here", "_law_most", "_law_n", "_law_d"]
theorem sc__law_number : FnScope N__law_number ["_law_source_here", "_law_most"] (defScope st__law_number) := ⟨rfl, rfl, rfl, by decide +kernel, rfl, by decide +kernel, by decide +kernel⟩
/-! def _law_cell_of -/
abbrev st__law_cell_of : Stmt := topS 49
abbrev N__law_cell_of : List Str := ["_law_number_here", "_law_width", "_law_n", "_law_d", "_law_e"]
theorem sc__law_cell_of : FnScope N__law_cell_of ["_law_number_here", "_law_width"] (defScope st__law_cell_of) := ⟨rfl, rfl, rfl, by decide +kernel, rfl, by decide +kernel, by decide +kernel⟩
/-! def _law_place -/
abbrev st__law_place : Stmt := topS 50
abbrev N__law_place : List Str := ["_law_number_here", "_law_width", "_law_k", "_law_e", "_law_n", "_law_d"]
theorem sc__law_place : FnScope N__law_place ["_law_number_here", "_law_width"] (defScope st__law_place) := ⟨rfl, rfl, rfl, by decide +kernel, rfl, by decide +kernel, by decide +kernel⟩
/-! def _law_end -/
abbrev st__law_end : Stmt := topS 51
abbrev N__law_end : List Str := ["_law_k", "_law_e"]
theorem sc__law_end : FnScope N__law_end ["_law_k", "_law_e"] (defScope st__law_end) := ⟨rfl, rfl, rfl, by decide +kernel, rfl, by decide +kernel, by decide +kernel⟩
/-! def _law_goes_up -/
abbrev st__law_goes_up : Stmt := topS 52
abbrev N__law_goes_up : List Str := ["_law_k", "_law_place_here", "_law_rule_here", "_law_n", "_law_d"]
theorem sc__law_goes_up : FnScope N__law_goes_up ["_law_k", "_law_place_here", "_law_rule_here"] (defScope st__law_goes_up) := ⟨rfl, rfl, rfl, by decide +kernel, rfl, by decide +kernel, by decide +kernel⟩
/-! def _law_rounded -/
abbrev st__law_rounded : Stmt := topS 53
abbrev N__law_rounded : List Str := ["_law_number_here", "_law_width", "_law_rule_here", "_law_k", "_law_e", "_law_place_here"]
theorem sc__law_rounded : FnScope N__law_rounded ["_law_number_here", "_law_width", "_law_rule_here"] (defScope st__law_rounded) := ⟨rfl, rfl, rfl, by decide +kernel, rfl, by decide +kernel, by decide +kernel⟩
/-! def _law_rule -/
abbrev st__law_rule : Stmt := topS 54
abbrev N__law_rule : List Str := ["_law_source_here"]
theorem sc__law_rule : FnScope N__law_rule ["_law_source_here"] (defScope st__law_rule) := ⟨rfl, rfl, rfl, by decide +kernel, rfl, by decide +kernel, by decide +kernel⟩
/-! def _law_chain -/
abbrev st__law_chain : Stmt := topS 55
abbrev N__law_chain : List Str := ["_law_source_here", "_law_last", "_law_most", "_law_far", "_law_found", "_law_turn", "_law_falling", "_law_width", "_law_rule_here"]
theorem sc__law_chain : FnScope N__law_chain ["_law_source_here", "_law_last", "_law_most", "_law_far"] (defScope st__law_chain) := ⟨rfl, rfl, rfl, by decide +kernel, rfl, by decide +kernel, by decide +kernel⟩
/-! def _law_applied -/
abbrev st__law_applied : Stmt := topS 56
abbrev N__law_applied : List Str := ["_law_number_here", "_law_chain_here", "_law_width", "_law_rule_here"]
theorem sc__law_applied : FnScope N__law_applied ["_law_number_here", "_law_chain_here"] (defScope st__law_applied) := ⟨rfl, rfl, rfl, by decide +kernel, rfl, by decide +kernel, by decide +kernel⟩
/-! def _law_some_numbers -/
abbrev st__law_some_numbers : Stmt := topS 57
abbrev N__law_some_numbers : List Str := ["_law_source_here", "_law_least", "_law_fine", "_law_found", "_law_j", "_law_turn"]
theorem sc__law_some_numbers : FnScope N__law_some_numbers ["_law_source_here", "_law_least"] (defScope st__law_some_numbers) := ⟨rfl, rfl, rfl, by decide +kernel, rfl, by decide +kernel, by decide +kernel⟩
/-! def _law_right -/
abbrev st__law_right : Stmt := topS 58
abbrev N__law_right : List Str := ["_law_source_here", "_law_turn", "_law_steps", "_law_least", "_law_one", "_law_told"]
theorem sc__law_right : FnScope N__law_right ["_law_source_here"] (defScope st__law_right) := ⟨rfl, rfl, rfl, by decide +kernel, rfl, by decide +kernel, by decide +kernel⟩
/-! def law -/
abbrev st_law : Stmt := topS 59
abbrev N_law : List Str := ["_law_script", "_law_k"]
theorem sc_law : FnScope N_law ["_law_script"] (defScope st_law) := ⟨rfl, rfl, rfl, by decide +kernel, rfl, by decide +kernel, by decide +kernel⟩
structure Tx (w : World) (K : Fg) (mg : Str → Option Value) where
  f_is_int : Addr
  fd_is_int : FuncData
  F_is_int : Fun K "is_int" "is_int" st_is_int f_is_int fd_is_int
  g_is_int : mg "is_int" = some (.ref f_is_int)
  b_is_int : Binds K fd_is_int ["value", "least"] []
  f_common_divisor : Addr
  fd_common_divisor : FuncData
  F_common_divisor : Fun K "common_divisor" "common_divisor" st_common_divisor f_common_divisor fd_common_divisor
  g_common_divisor : mg "common_divisor" = some (.ref f_common_divisor)
  b_common_divisor : Binds K fd_common_divisor ["one", "other"] []
  f_lowest : Addr
  fd_lowest : FuncData
  F_lowest : Fun K "lowest" "lowest" st_lowest f_lowest fd_lowest
  g_lowest : mg "lowest" = some (.ref f_lowest)
  b_lowest : Binds K fd_lowest ["n", "d"] []
  f_is_number : Addr
  fd_is_number : FuncData
  F_is_number : Fun K "is_number" "is_number" st_is_number f_is_number fd_is_number
  g_is_number : mg "is_number" = some (.ref f_is_number)
  b_is_number : Binds K fd_is_number ["value"] []
  f_is_width : Addr
  fd_is_width : FuncData
  F_is_width : Fun K "is_width" "is_width" st_is_width f_is_width fd_is_width
  g_is_width : mg "is_width" = some (.ref f_is_width)
  b_is_width : Binds K fd_is_width ["value"] []
  f_check_number : Addr
  fd_check_number : FuncData
  F_check_number : Fun K "check_number" "check_number" st_check_number f_check_number fd_check_number
  g_check_number : mg "check_number" = some (.ref f_check_number)
  b_check_number : Binds K fd_check_number ["value"] []
  f_check_width : Addr
  fd_check_width : FuncData
  F_check_width : Fun K "check_width" "check_width" st_check_width f_check_width fd_check_width
  g_check_width : mg "check_width" = some (.ref f_check_width)
  b_check_width : Binds K fd_check_width ["value"] []
  f_scaled : Addr
  fd_scaled : FuncData
  F_scaled : Fun K "scaled" "scaled" st_scaled f_scaled fd_scaled
  g_scaled : mg "scaled" = some (.ref f_scaled)
  b_scaled : Binds K fd_scaled ["number", "e"] []
  f_power_number : Addr
  fd_power_number : FuncData
  F_power_number : Fun K "power_number" "power_number" st_power_number f_power_number fd_power_number
  g_power_number : mg "power_number" = some (.ref f_power_number)
  b_power_number : Binds K fd_power_number ["k", "e"] []
  f_cell_of : Addr
  fd_cell_of : FuncData
  F_cell_of : Fun K "cell_of" "cell_of" st_cell_of f_cell_of fd_cell_of
  g_cell_of : mg "cell_of" = some (.ref f_cell_of)
  b_cell_of : Binds K fd_cell_of ["number", "width"] []
  f_position_of : Addr
  fd_position_of : FuncData
  F_position_of : Fun K "position_of" "position_of" st_position_of f_position_of fd_position_of
  g_position_of : mg "position_of" = some (.ref f_position_of)
  b_position_of : Binds K fd_position_of ["number", "width"] []
  f_is_rule : Addr
  fd_is_rule : FuncData
  F_is_rule : Fun K "is_rule" "is_rule" st_is_rule f_is_rule fd_is_rule
  g_is_rule : mg "is_rule" = some (.ref f_is_rule)
  b_is_rule : Binds K fd_is_rule ["value"] []
  f_ends_of : Addr
  fd_ends_of : FuncData
  F_ends_of : Fun K "ends_of" "ends_of" st_ends_of f_ends_of fd_ends_of
  g_ends_of : mg "ends_of" = some (.ref f_ends_of)
  b_ends_of : Binds K fd_ends_of ["number", "width"] []
  f_goes_up : Addr
  fd_goes_up : FuncData
  F_goes_up : Fun K "goes_up" "goes_up" st_goes_up f_goes_up fd_goes_up
  g_goes_up : mg "goes_up" = some (.ref f_goes_up)
  b_goes_up : Binds K fd_goes_up ["k", "place", "rule"] []
  f_round_once : Addr
  fd_round_once : FuncData
  F_round_once : Fun K "round_once" "round_once" st_round_once f_round_once fd_round_once
  g_round_once : mg "round_once" = some (.ref f_round_once)
  b_round_once : Binds K fd_round_once ["number", "width", "rule"] []
  f_neighbours : Addr
  fd_neighbours : FuncData
  F_neighbours : Fun K "neighbours" "neighbours" st_neighbours f_neighbours fd_neighbours
  g_neighbours : mg "neighbours" = some (.ref f_neighbours)
  b_neighbours : Binds K fd_neighbours ["number", "width"] []
  f_is_step : Addr
  fd_is_step : FuncData
  F_is_step : Fun K "is_step" "is_step" st_is_step f_is_step fd_is_step
  g_is_step : mg "is_step" = some (.ref f_is_step)
  b_is_step : Binds K fd_is_step ["value"] []
  f_is_chain : Addr
  fd_is_chain : FuncData
  F_is_chain : Fun K "is_chain" "is_chain" st_is_chain f_is_chain fd_is_chain
  g_is_chain : mg "is_chain" = some (.ref f_is_chain)
  b_is_chain : Binds K fd_is_chain ["value"] []
  f_check_chain : Addr
  fd_check_chain : FuncData
  F_check_chain : Fun K "check_chain" "check_chain" st_check_chain f_check_chain fd_check_chain
  g_check_chain : mg "check_chain" = some (.ref f_check_chain)
  b_check_chain : Binds K fd_check_chain ["value"] []
  f_last_width : Addr
  fd_last_width : FuncData
  F_last_width : Fun K "last_width" "last_width" st_last_width f_last_width fd_last_width
  g_last_width : mg "last_width" = some (.ref f_last_width)
  b_last_width : Binds K fd_last_width ["chain"] []
  f_stages : Addr
  fd_stages : FuncData
  F_stages : Fun K "stages" "stages" st_stages f_stages fd_stages
  g_stages : mg "stages" = some (.ref f_stages)
  b_stages : Binds K fd_stages ["number", "chain"] []
  f_applied : Addr
  fd_applied : FuncData
  F_applied : Fun K "applied" "applied" st_applied f_applied fd_applied
  g_applied : mg "applied" = some (.ref f_applied)
  b_applied : Binds K fd_applied ["number", "chain"] []
  f__law_source : Addr
  fd__law_source : FuncData
  F__law_source : Fun K "_law_source" "_law_source" st__law_source f__law_source fd__law_source
  g__law_source : mg "_law_source" = some (.ref f__law_source)
  b__law_source : Binds K fd__law_source ["_law_script", "_law_k"] []
  f__law_draw : Addr
  fd__law_draw : FuncData
  F__law_draw : Fun K "_law_draw" "_law_draw" st__law_draw f__law_draw fd__law_draw
  g__law_draw : mg "_law_draw" = some (.ref f__law_draw)
  b__law_draw : Binds K fd__law_draw ["_law_source_here", "_law_size"] []
  f__law_pick : Addr
  fd__law_pick : FuncData
  F__law_pick : Fun K "_law_pick" "_law_pick" st__law_pick f__law_pick fd__law_pick
  g__law_pick : mg "_law_pick" = some (.ref f__law_pick)
  b__law_pick : Binds K fd__law_pick ["_law_source_here", "_law_some"] []
  f__law_divisor : Addr
  fd__law_divisor : FuncData
  F__law_divisor : Fun K "_law_divisor" "_law_divisor" st__law_divisor f__law_divisor fd__law_divisor
  g__law_divisor : mg "_law_divisor" = some (.ref f__law_divisor)
  b__law_divisor : Binds K fd__law_divisor ["_law_one", "_law_other"] []
  f__law_low : Addr
  fd__law_low : FuncData
  F__law_low : Fun K "_law_low" "_law_low" st__law_low f__law_low fd__law_low
  g__law_low : mg "_law_low" = some (.ref f__law_low)
  b__law_low : Binds K fd__law_low ["_law_n", "_law_d"] []
  f__law_scaled : Addr
  fd__law_scaled : FuncData
  F__law_scaled : Fun K "_law_scaled" "_law_scaled" st__law_scaled f__law_scaled fd__law_scaled
  g__law_scaled : mg "_law_scaled" = some (.ref f__law_scaled)
  b__law_scaled : Binds K fd__law_scaled ["_law_number_here", "_law_e"] []
  f__law_number : Addr
  fd__law_number : FuncData
  F__law_number : Fun K "_law_number" "_law_number" st__law_number f__law_number fd__law_number
  g__law_number : mg "_law_number" = some (.ref f__law_number)
  b__law_number : Binds K fd__law_number ["_law_source_here", "_law_most"] []
  f__law_cell_of : Addr
  fd__law_cell_of : FuncData
  F__law_cell_of : Fun K "_law_cell_of" "_law_cell_of" st__law_cell_of f__law_cell_of fd__law_cell_of
  g__law_cell_of : mg "_law_cell_of" = some (.ref f__law_cell_of)
  b__law_cell_of : Binds K fd__law_cell_of ["_law_number_here", "_law_width"] []
  f__law_place : Addr
  fd__law_place : FuncData
  F__law_place : Fun K "_law_place" "_law_place" st__law_place f__law_place fd__law_place
  g__law_place : mg "_law_place" = some (.ref f__law_place)
  b__law_place : Binds K fd__law_place ["_law_number_here", "_law_width"] []
  f__law_end : Addr
  fd__law_end : FuncData
  F__law_end : Fun K "_law_end" "_law_end" st__law_end f__law_end fd__law_end
  g__law_end : mg "_law_end" = some (.ref f__law_end)
  b__law_end : Binds K fd__law_end ["_law_k", "_law_e"] []
  f__law_goes_up : Addr
  fd__law_goes_up : FuncData
  F__law_goes_up : Fun K "_law_goes_up" "_law_goes_up" st__law_goes_up f__law_goes_up fd__law_goes_up
  g__law_goes_up : mg "_law_goes_up" = some (.ref f__law_goes_up)
  b__law_goes_up : Binds K fd__law_goes_up ["_law_k", "_law_place_here", "_law_rule_here"] []
  f__law_rounded : Addr
  fd__law_rounded : FuncData
  F__law_rounded : Fun K "_law_rounded" "_law_rounded" st__law_rounded f__law_rounded fd__law_rounded
  g__law_rounded : mg "_law_rounded" = some (.ref f__law_rounded)
  b__law_rounded : Binds K fd__law_rounded ["_law_number_here", "_law_width", "_law_rule_here"] []
  f__law_rule : Addr
  fd__law_rule : FuncData
  F__law_rule : Fun K "_law_rule" "_law_rule" st__law_rule f__law_rule fd__law_rule
  g__law_rule : mg "_law_rule" = some (.ref f__law_rule)
  b__law_rule : Binds K fd__law_rule ["_law_source_here"] []
  f__law_chain : Addr
  fd__law_chain : FuncData
  F__law_chain : Fun K "_law_chain" "_law_chain" st__law_chain f__law_chain fd__law_chain
  g__law_chain : mg "_law_chain" = some (.ref f__law_chain)
  b__law_chain : Binds K fd__law_chain ["_law_source_here", "_law_last", "_law_most", "_law_far"] []
  f__law_applied : Addr
  fd__law_applied : FuncData
  F__law_applied : Fun K "_law_applied" "_law_applied" st__law_applied f__law_applied fd__law_applied
  g__law_applied : mg "_law_applied" = some (.ref f__law_applied)
  b__law_applied : Binds K fd__law_applied ["_law_number_here", "_law_chain_here"] []
  f__law_some_numbers : Addr
  fd__law_some_numbers : FuncData
  F__law_some_numbers : Fun K "_law_some_numbers" "_law_some_numbers" st__law_some_numbers f__law_some_numbers fd__law_some_numbers
  g__law_some_numbers : mg "_law_some_numbers" = some (.ref f__law_some_numbers)
  b__law_some_numbers : Binds K fd__law_some_numbers ["_law_source_here", "_law_least"] []
  f__law_right : Addr
  fd__law_right : FuncData
  F__law_right : Fun K "_law_right" "_law_right" st__law_right f__law_right fd__law_right
  g__law_right : mg "_law_right" = some (.ref f__law_right)
  b__law_right : Binds K fd__law_right ["_law_source_here"] []
  f_law : Addr
  fd_law : FuncData
  F_law : Fun K "law" "law" st_law f_law fd_law
  g_law : mg "law" = some (.ref f_law)
  b_law : Binds K fd_law ["_law_script"] []
  n_abs : mg "abs" = none
  n_all : mg "all" = none
  n_bool : mg "bool" = none
  n_int : mg "int" = none
  n_isinstance : mg "isinstance" = none
  n_len : mg "len" = none
  n_max : mg "max" = none
  n_min : mg "min" = none
  n_range : mg "range" = none
  n_sorted : mg "sorted" = none
  n_str : mg "str" = none
  n_tuple : mg "tuple" = none
  u_DOWN : Value
  w_DOWN : V
  c_DOWN : mg "DOWN" = some u_DOWN
  v_DOWN : RelV w_DOWN u_DOWN
  r_DOWN : ∀ F, Rp K F w_DOWN (.str "down")
  u_HALF_EVEN : Value
  w_HALF_EVEN : V
  c_HALF_EVEN : mg "HALF_EVEN" = some u_HALF_EVEN
  v_HALF_EVEN : RelV w_HALF_EVEN u_HALF_EVEN
  r_HALF_EVEN : ∀ F, Rp K F w_HALF_EVEN (.str "half_even")
  u_HALF_UP : Value
  w_HALF_UP : V
  c_HALF_UP : mg "HALF_UP" = some u_HALF_UP
  v_HALF_UP : RelV w_HALF_UP u_HALF_UP
  r_HALF_UP : ∀ F, Rp K F w_HALF_UP (.str "half_up")
  u_MOST_STEPS : Value
  w_MOST_STEPS : V
  c_MOST_STEPS : mg "MOST_STEPS" = some u_MOST_STEPS
  v_MOST_STEPS : RelV w_MOST_STEPS u_MOST_STEPS
  r_MOST_STEPS : ∀ F, Rp K F w_MOST_STEPS (.int 12)
  u_MOST_WIDTH : Value
  w_MOST_WIDTH : V
  c_MOST_WIDTH : mg "MOST_WIDTH" = some u_MOST_WIDTH
  v_MOST_WIDTH : RelV w_MOST_WIDTH u_MOST_WIDTH
  r_MOST_WIDTH : ∀ F, Rp K F w_MOST_WIDTH (.int 100)
  u_ODD : Value
  w_ODD : V
  c_ODD : mg "ODD" = some u_ODD
  v_ODD : RelV w_ODD u_ODD
  r_ODD : ∀ F, Rp K F w_ODD (.str "odd")
  u_PAIR_cells : Value
  w_PAIR_cells : V
  c_PAIR_cells : mg "PAIR_cells" = some u_PAIR_cells
  v_PAIR_cells : RelV w_PAIR_cells u_PAIR_cells
  r_PAIR_cells : ∀ F, Rp K F w_PAIR_cells (.int 2)
  u_PAIR_chains : Value
  w_PAIR_chains : V
  c_PAIR_chains : mg "PAIR_chains" = some u_PAIR_chains
  v_PAIR_chains : RelV w_PAIR_chains u_PAIR_chains
  r_PAIR_chains : ∀ F, Rp K F w_PAIR_chains (.int 2)
  u_RULES : Value
  w_RULES : V
  c_RULES : mg "RULES" = some u_RULES
  v_RULES : RelV w_RULES u_RULES
  r_RULES : ∀ F, Rp K F w_RULES (.tuple [(.str "down"), (.str "half_down"), (.str "half_even"), (.str "half_up"), (.str "odd"), (.str "up")])
  u_UP : Value
  w_UP : V
  c_UP : mg "UP" = some u_UP
  v_UP : RelV w_UP u_UP
  r_UP : ∀ F, Rp K F w_UP (.str "up")
--@@ is_int
def b_is_int : DS :=
  (dRet (dAndV (dIsi "int" (dVar 0)) (dAndV (dNotV (dIsi "bool" (dVar 0))) (dBin oGe (dVar 0) (dVar 1)))))
/-- value is an int, no bool, at least m -/
def isInt (d : Da) (m : Int) : Bool := match d with
  | .int i => decide (m ≤ i)
  | _ => false
def fs_is_int : FSp := fun rs fu post => ∃ d m, rs = [.val d, .val (.int m)] ∧ post (.val (.bool (isInt d m))) fu
theorem p_is_int (rs : List Rv) (fu : Option Nat) (post : Rr → Option Nat → Prop) (hl : rs.length = 2) (h : fs_is_int rs fu post) : b_is_int ⟨fun g => post (.val .none) g.fu, fun r g => post r g.fu, fun _ => False, fun _ => False⟩ (ent N_is_int rs fu) := by
  obtain ⟨d, m, rfl, h⟩ := h
  cases d <;> (simp only [↓dSeq, ↓dAsg, ↓dSetL, ↓dNext, ↓dIfS, ↓dRet, ↓dRetL, ↓dDrop, ↓dNever, ↓dBrk, ↓dCnt, ↓dAug, ↓dPar, ↓dPar3, ↓dParL, ↓dApp, ↓dExt, ↓dVar, ↓dC, ↓dBin, ↓fI, ↓fI0, ↓fAdd, ↓fEq, ↓fNe, ↓fIn, ↓dTest, ↓dAndT, ↓dOrT, ↓dNotT, ↓dAndV, ↓dOrV, ↓dNotV, ↓dIf, ↓dNeg, ↓dIsN, ↓dChain, ↓dNil, ↓dCons, ↓dTup, ↓dLst, ↓dFz, ↓valsD, ↓dIx, ↓dCall, ↓dCallL, ↓hasSrc, ↓rrv, ↓dN, ↓dT, ↓dTn, ↓dTc, ↓rsv, ↓Gs.set, ↓dFor, ↓dItems, ↓dRange1, ↓dRange2, ↓dZip, ↓dRev, ↓dLc, ↓dCB, ↓cLen, ↓cAll, ↓cTuple, ↓cInt, ↓cInt1, ↓cInt2, ↓dIsi, ↓dBits, ↓dSetS, ↓dCallS, ↓oSub, ↓oAddI, ↓oMul, ↓oDiv, ↓oMod, ↓oShl, ↓oShr, ↓oPow, ↓oAnd, ↓oLt, ↓oLe, ↓oGt, ↓oGe, ↓oAbs, ↓oMax, ↓oMin, ↓dCallK, ↓cRepr, ↓cSum, ↓cMinL, ↓cMaxL, ↓cSorted, ↓cSortedD, ↓cList, ↓dListR, ↓fInD, ↓fMulL, ↓dSl, ↓oNo, ↓oSo, ↓dBy, b_is_int, ent, svOf, List.map_cons, List.map_nil, List.cons_append, List.nil_append, List.append_nil, List.replicate, List.length_cons, List.length_nil, List.getElem?_cons_zero, List.getElem?_cons_succ, List.getElem?_nil, List.set_cons_zero, List.set_cons_succ, Option.map_some, Option.map_none, Option.isNone_some, Option.isNone_none, forall_const, true_implies, false_implies, and_true, true_and, Bool.true_eq_false, Bool.false_eq_true, reduceCtorEq, noOwn, wipeS, hide, fuN_self, lcD, dYes, Nat.zero_add, Nat.reduceAdd, Nat.reduceLeDiff, Nat.reduceSub, atI_0, atI_1, atI_2, atI_3, atI_4, atI_5, Int.one_mul, eqv_ii, eqv_ss, eqv_num, shaped_int, shaped_num, shaped_none, shaped_ru, flat_str, flat_int, flat_none, List.all_cons, List.all_nil, Bool.and_true, decide_eq_true_eq, decide_eq_false_iff_not, Bool.not_eq_true', Bool.not_eq_false', Decidable.not_not, ↓reduceIte, Bool.false_eq_true, Int.reduceLT, eqv_strs, pick_0, pick_01, pick_10, pick_012, pick_021, pick_102, pick_120, pick_201, pick_210]; simp_all [isInt, isTy])
section
variable {P : Program} {w : World} {K : Fg} {mg : Str → Option Value} {base : Heap}
theorem d_is_int (T : Tx w K mg) {cdv : Value} {A : Around} {outer : List Env} {s : Shared} {H : Hp} {E : XK} (hr : Room 0 (A.deeper (envOfC "is_int" (defScope st_is_int) s.heap.objs.size T.f_is_int cdv))) (hgd : (A.deeper (envOfC "is_int" (defScope st_is_int) s.heap.objs.size T.f_is_int cdv)).guards = some []) :
    PSs (cxOf CX0 P w K mg base N_is_int "is_int" (defScope st_is_int) T.f_is_int cdv A outer s H E).nox (defBody st_is_int) (upS K b_is_int) :=
  (ss_one (s_ret (e_and (e_isi kit_int (by rfl) T.n_isinstance (e_var 0 (pv 0)) (c_ty (by rfl) T.n_int (by decide +kernel))) (e_and (e_not (e_isi kit_bool (by rfl) T.n_isinstance (e_var 0 (pv 0)) (c_ty (by rfl) T.n_bool (by decide +kernel)))) (e_one (e_ge (e_var 0 (pv 0)) (e_var 1 (pv 1))))))))
theorem ok_is_int (T : Tx w K mg) : Fn P w K mg base CX0 1 T.f_is_int T.fd_is_int ["value", "least"] (lift K 2 fs_is_int) := fn_data T.F_is_int sc_is_int b_is_int (fun _ _ _ _ _ _ hr hgd => d_is_int T hr hgd) p_is_int
end
--@@ common_divisor
def b_common_divisor : DS :=
  (dSeq (dWhile (dTest (dBin fNe (dVar 1) (dC (.int 0))))
    (dPar 0 1 (dVar 1) (dBin oMod (dVar 0) (dVar 1))))
  (dRet (dVar 0)))
def fs_common_divisor : FSp := fun rs fu post => ∃ a b : Int, rs = [.val (.int a), .val (.int b)] ∧ 0 ≤ a ∧ 0 ≤ b ∧ post (.val (.int (Int.gcd a b))) fu
theorem p_common_divisor (rs : List Rv) (fu : Option Nat) (post : Rr → Option Nat → Prop) (hl : rs.length = 2) (h : fs_common_divisor rs fu post) : b_common_divisor ⟨fun g => post (.val .none) g.fu, fun r g => post r g.fu, fun _ => False, fun _ => False⟩ (ent N_common_divisor rs fu) := by
  obtain ⟨a, b, rfl, ha, hb, h⟩ := h
  simp only [↓dSeq, ↓dAsg, ↓dSetL, ↓dNext, ↓dIfS, ↓dRet, ↓dRetL, ↓dDrop, ↓dNever, ↓dBrk, ↓dCnt, ↓dAug, ↓dPar, ↓dPar3, ↓dParL, ↓dApp, ↓dExt, ↓dVar, ↓dC, ↓dBin, ↓fI, ↓fI0, ↓fAdd, ↓fEq, ↓fNe, ↓fIn, ↓dTest, ↓dAndT, ↓dOrT, ↓dNotT, ↓dAndV, ↓dOrV, ↓dNotV, ↓dIf, ↓dNeg, ↓dIsN, ↓dChain, ↓dNil, ↓dCons, ↓dTup, ↓dLst, ↓dFz, ↓valsD, ↓dIx, ↓dCall, ↓dCallL, ↓hasSrc, ↓rrv, ↓dN, ↓dT, ↓dTn, ↓dTc, ↓rsv, ↓Gs.set, ↓dFor, ↓dItems, ↓dRange1, ↓dRange2, ↓dZip, ↓dRev, ↓dLc, ↓dCB, ↓cLen, ↓cAll, ↓cTuple, ↓cInt, ↓cInt1, ↓cInt2, ↓dIsi, ↓dBits, ↓dSetS, ↓dCallS, ↓oSub, ↓oAddI, ↓oMul, ↓oDiv, ↓oMod, ↓oShl, ↓oShr, ↓oPow, ↓oAnd, ↓oLt, ↓oLe, ↓oGt, ↓oGe, ↓oAbs, ↓oMax, ↓oMin, ↓dCallK, ↓cRepr, ↓cSum, ↓cMinL, ↓cMaxL, ↓cSorted, ↓cSortedD, ↓cList, ↓dListR, ↓fInD, ↓fMulL, ↓dSl, ↓oNo, ↓oSo, ↓dBy, b_common_divisor, ent, svOf, List.map_cons, List.map_nil, List.cons_append, List.nil_append, List.append_nil, List.replicate, List.length_cons, List.length_nil, List.getElem?_cons_zero, List.getElem?_cons_succ, List.getElem?_nil, List.set_cons_zero, List.set_cons_succ, Option.map_some, Option.map_none, Option.isNone_some, Option.isNone_none, forall_const, true_implies, false_implies, and_true, true_and, Bool.true_eq_false, Bool.false_eq_true, reduceCtorEq, noOwn, wipeS, hide, fuN_self, lcD, dYes, Nat.zero_add, Nat.reduceAdd, Nat.reduceLeDiff, Nat.reduceSub, atI_0, atI_1, atI_2, atI_3, atI_4, atI_5, Int.one_mul, eqv_ii, eqv_ss, eqv_num, shaped_int, shaped_num, shaped_none, shaped_ru, flat_str, flat_int, flat_none, List.all_cons, List.all_nil, Bool.and_true, decide_eq_true_eq, decide_eq_false_iff_not, Bool.not_eq_true', Bool.not_eq_false', Decidable.not_not, ↓reduceIte, Bool.false_eq_true, Int.reduceLT, eqv_strs, pick_0, pick_01, pick_10, pick_012, pick_021, pick_102, pick_120, pick_201, pick_210]
  refine ⟨fun m g => ∃ x y : Int, g = ⟨[some (.val (.int x)), some (.val (.int y))], fu, fu.isNone⟩ ∧ 0 ≤ x ∧ 0 ≤ y ∧ y.toNat = m ∧ Int.gcd x y = Int.gcd a b, ⟨b.toNat, a, b, rfl, ha, hb, rfl, rfl⟩, fun m g hg => ?_⟩
  obtain ⟨x, y, rfl, hx, hy, rfl, e⟩ := hg
  simp only [↓dSeq, ↓dAsg, ↓dSetL, ↓dNext, ↓dIfS, ↓dRet, ↓dRetL, ↓dDrop, ↓dNever, ↓dBrk, ↓dCnt, ↓dAug, ↓dPar, ↓dPar3, ↓dParL, ↓dApp, ↓dExt, ↓dVar, ↓dC, ↓dBin, ↓fI, ↓fI0, ↓fAdd, ↓fEq, ↓fNe, ↓fIn, ↓dTest, ↓dAndT, ↓dOrT, ↓dNotT, ↓dAndV, ↓dOrV, ↓dNotV, ↓dIf, ↓dNeg, ↓dIsN, ↓dChain, ↓dNil, ↓dCons, ↓dTup, ↓dLst, ↓dFz, ↓valsD, ↓dIx, ↓dCall, ↓dCallL, ↓hasSrc, ↓rrv, ↓dN, ↓dT, ↓dTn, ↓dTc, ↓rsv, ↓Gs.set, ↓dFor, ↓dItems, ↓dRange1, ↓dRange2, ↓dZip, ↓dRev, ↓dLc, ↓dCB, ↓cLen, ↓cAll, ↓cTuple, ↓cInt, ↓cInt1, ↓cInt2, ↓dIsi, ↓dBits, ↓dSetS, ↓dCallS, ↓oSub, ↓oAddI, ↓oMul, ↓oDiv, ↓oMod, ↓oShl, ↓oShr, ↓oPow, ↓oAnd, ↓oLt, ↓oLe, ↓oGt, ↓oGe, ↓oAbs, ↓oMax, ↓oMin, ↓dCallK, ↓cRepr, ↓cSum, ↓cMinL, ↓cMaxL, ↓cSorted, ↓cSortedD, ↓cList, ↓dListR, ↓fInD, ↓fMulL, ↓dSl, ↓oNo, ↓oSo, ↓dBy, ent, svOf, List.map_cons, List.map_nil, List.cons_append, List.nil_append, List.append_nil, List.replicate, List.length_cons, List.length_nil, List.getElem?_cons_zero, List.getElem?_cons_succ, List.getElem?_nil, List.set_cons_zero, List.set_cons_succ, Option.map_some, Option.map_none, Option.isNone_some, Option.isNone_none, forall_const, true_implies, false_implies, and_true, true_and, Bool.true_eq_false, Bool.false_eq_true, reduceCtorEq, noOwn, wipeS, hide, fuN_self, lcD, dYes, Nat.zero_add, Nat.reduceAdd, Nat.reduceLeDiff, Nat.reduceSub, atI_0, atI_1, atI_2, atI_3, atI_4, atI_5, Int.one_mul, eqv_ii, eqv_ss, eqv_num, shaped_int, shaped_num, shaped_none, shaped_ru, flat_str, flat_int, flat_none, List.all_cons, List.all_nil, Bool.and_true, decide_eq_true_eq, decide_eq_false_iff_not, Bool.not_eq_true', Bool.not_eq_false', Decidable.not_not, ↓reduceIte, Bool.false_eq_true, Int.reduceLT, eqv_strs, pick_0, pick_01, pick_10, pick_012, pick_021, pick_102, pick_120, pick_201, pick_210]
  refine ⟨fun hne => ?_, fun heq => ?_⟩
  · have hy0 : 0 < y := by omega
    refine ⟨hy0, (x % y).toNat, ?_, y, x % y, rfl, hy, Int.emod_nonneg _ (by omega), rfl, by rw [gcd_step hx hy0, e]⟩
    have := Int.emod_lt_of_pos x hy0
    have := Int.emod_nonneg x (show y ≠ 0 by omega)
    omega
  · subst heq
    rw [Int.gcd_zero_right] at e
    have : x = ((Int.gcd a b : Nat) : Int) := by omega
    rw [this]
    exact h
section
variable {P : Program} {w : World} {K : Fg} {mg : Str → Option Value} {base : Heap}
theorem d_common_divisor (T : Tx w K mg) {cdv : Value} {A : Around} {outer : List Env} {s : Shared} {H : Hp} {E : XK} (hr : Room 0 (A.deeper (envOfC "common_divisor" (defScope st_common_divisor) s.heap.objs.size T.f_common_divisor cdv))) (hgd : (A.deeper (envOfC "common_divisor" (defScope st_common_divisor) s.heap.objs.size T.f_common_divisor cdv)).guards = some []) :
    PSs (cxOf CX0 P w K mg base N_common_divisor "common_divisor" (defScope st_common_divisor) T.f_common_divisor cdv A outer s H E).nox (defBody st_common_divisor) (upS K b_common_divisor) :=
  (ss_cons (s_while PassesOwn.never (t_ne hr.units (e_var 1 (pv 1)) e_int) (ss_one (s_par (i := 0) (j := 1) rfl sc_common_divisor.nd rfl rfl (by decide) rfl rfl (e_var 1 (pv 1)) (e_mod (e_var 0 (pv 0)) (e_var 1 (pv 1))))))
    (ss_one (s_ret (e_var 0 (pv 0)))))
theorem ok_common_divisor (T : Tx w K mg) : Fn P w K mg base CX0 1 T.f_common_divisor T.fd_common_divisor ["one", "other"] (lift K 2 fs_common_divisor) := fn_data T.F_common_divisor sc_common_divisor b_common_divisor (fun _ _ _ _ _ _ hr hgd => d_common_divisor T hr hgd) p_common_divisor
end
--@@ lowest
def b_lowest : DS :=
  (dSeq (dAsg (dCall 2 fs_common_divisor (dCons (dVar 0) (dCons (dVar 1) dNil))) (dN 2))
  (dRet (dTup (dCons (dBin oDiv (dVar 0) (dVar 2)) (dCons (dBin oDiv (dVar 1) (dVar 2)) dNil)))))
def fs_lowest : FSp := fun rs fu post => ∃ n d : Int, rs = [.val (.int n), .val (.int d)] ∧ 0 ≤ n ∧ 0 < d ∧ Bn 9000 d ∧ post (.val (lowD n d)) fu
theorem gcd_divW {n d x : Int} (hd : 0 < d) (hs : Bn 9000 d) : CDivW x (Int.gcd n d) := divX 9000 (gcd_pos hd) (hs.le (Int.le_of_lt (gcd_pos hd)) (gcd_le hd)) (Nat.le_refl _)
theorem p_lowest (rs : List Rv) (fu : Option Nat) (post : Rr → Option Nat → Prop) (hl : rs.length = 2) (h : fs_lowest rs fu post) : b_lowest ⟨fun g => post (.val .none) g.fu, fun r g => post r g.fu, fun _ => False, fun _ => False⟩ (ent N_lowest rs fu) := by
  obtain ⟨n, d, rfl, hn, hd, hs, h⟩ := h
  simp only [↓dSeq, ↓dAsg, ↓dSetL, ↓dNext, ↓dIfS, ↓dRet, ↓dRetL, ↓dDrop, ↓dNever, ↓dBrk, ↓dCnt, ↓dAug, ↓dPar, ↓dPar3, ↓dParL, ↓dApp, ↓dExt, ↓dVar, ↓dC, ↓dBin, ↓fI, ↓fI0, ↓fAdd, ↓fEq, ↓fNe, ↓fIn, ↓dTest, ↓dAndT, ↓dOrT, ↓dNotT, ↓dAndV, ↓dOrV, ↓dNotV, ↓dIf, ↓dNeg, ↓dIsN, ↓dChain, ↓dNil, ↓dCons, ↓dTup, ↓dLst, ↓dFz, ↓valsD, ↓dIx, ↓dCall, ↓dCallL, ↓hasSrc, ↓rrv, ↓dN, ↓dT, ↓dTn, ↓dTc, ↓rsv, ↓Gs.set, ↓dFor, ↓dItems, ↓dRange1, ↓dRange2, ↓dZip, ↓dRev, ↓dLc, ↓dCB, ↓cLen, ↓cAll, ↓cTuple, ↓cInt, ↓cInt1, ↓cInt2, ↓dIsi, ↓dBits, ↓dSetS, ↓dCallS, ↓oSub, ↓oAddI, ↓oMul, ↓oDiv, ↓oMod, ↓oShl, ↓oShr, ↓oPow, ↓oAnd, ↓oLt, ↓oLe, ↓oGt, ↓oGe, ↓oAbs, ↓oMax, ↓oMin, ↓dCallK, ↓cRepr, ↓cSum, ↓cMinL, ↓cMaxL, ↓cSorted, ↓cSortedD, ↓cList, ↓dListR, ↓fInD, ↓fMulL, ↓dSl, ↓oNo, ↓oSo, ↓dBy, b_lowest, fs_common_divisor, ent, svOf, List.map_cons, List.map_nil, List.cons_append, List.nil_append, List.append_nil, List.replicate, List.length_cons, List.length_nil, List.getElem?_cons_zero, List.getElem?_cons_succ, List.getElem?_nil, List.set_cons_zero, List.set_cons_succ, Option.map_some, Option.map_none, Option.isNone_some, Option.isNone_none, forall_const, true_implies, false_implies, and_true, true_and, Bool.true_eq_false, Bool.false_eq_true, reduceCtorEq, noOwn, wipeS, hide, fuN_self, lcD, dYes, Nat.zero_add, Nat.reduceAdd, Nat.reduceLeDiff, Nat.reduceSub, atI_0, atI_1, atI_2, atI_3, atI_4, atI_5, Int.one_mul, eqv_ii, eqv_ss, eqv_num, shaped_int, shaped_num, shaped_none, shaped_ru, flat_str, flat_int, flat_none, List.all_cons, List.all_nil, Bool.and_true, decide_eq_true_eq, decide_eq_false_iff_not, Bool.not_eq_true', Bool.not_eq_false', Decidable.not_not, ↓reduceIte, Bool.false_eq_true, Int.reduceLT, eqv_strs, pick_0, pick_01, pick_10, pick_012, pick_021, pick_102, pick_120, pick_201, pick_210]
  refine ⟨n, d, rfl, hn, by omega, gcd_divW hd hs, gcd_divW hd hs, h⟩
section
variable {P : Program} {w : World} {K : Fg} {mg : Str → Option Value} {base : Heap}
theorem d_lowest (T : Tx w K mg) {cdv : Value} {A : Around} {outer : List Env} {s : Shared} {H : Hp} {E : XK} (hr : Room 1 (A.deeper (envOfC "lowest" (defScope st_lowest) s.heap.objs.size T.f_lowest cdv))) (hgd : (A.deeper (envOfC "lowest" (defScope st_lowest) s.heap.objs.size T.f_lowest cdv)).guards = some []) :
    PSs (cxOf CX0 P w K mg base N_lowest "lowest" (defScope st_lowest) T.f_lowest cdv A outer s H E).nox (defBody st_lowest) (upS K b_lowest) :=
  (ss_cons (s_set (i := 2) sc_lowest.nd rfl (.inl rfl) (e_call (ok_common_divisor T) (hr.mono (by decide)) hgd (by rfl) T.g_common_divisor T.F_common_divisor.kp T.b_common_divisor pass0 (a_cons (e_var 0 (pv 0)) (a_cons (e_var 1 (pv 1)) a_nil))))
    (ss_one (s_ret (e_tup (a_cons (e_div (e_var 0 (pv 0)) (e_var 2 (pv 2))) (a_cons (e_div (e_var 1 (pv 1)) (e_var 2 (pv 2))) a_nil))))))
theorem ok_lowest (T : Tx w K mg) : Fn P w K mg base CX0 2 T.f_lowest T.fd_lowest ["n", "d"] (lift K 2 fs_lowest) := fn_data T.F_lowest sc_lowest b_lowest (fun _ _ _ _ _ _ hr hgd => d_lowest T hr hgd) p_lowest
end
--@@ is_number
def b_is_number : DS :=
  (dSeq (dIfS (dOrT (dNotT (dTest (dIsi "tuple" (dVar 0)))) (dOrT (dTest (dBin fNe (dCB cLen (dCons (dVar 0) dNil)) (dC (.int 2)))) (dNotT (dTest (dCB cAll (dCons (dFz (dLc [1] (dItems (dVar 0)) (dN 1) dYes (dCall 2 fs_is_int (dCons (dVar 1) (dCons (dC (.int 1)) dNil))))) dNil))))))
    (dRet (dC (.bool false)))
    dNext)
  (dRet (dBin fEq (dCall 2 fs_common_divisor (dCons (dIx (dVar 0) (dC (.int 0))) (dCons (dIx (dVar 0) (dC (.int 1))) dNil))) (dC (.int 1)))))
/-- a number: two ints from 1 on without a common divisor -/
def isNum : Da → Bool
  | .tuple [x, y] => isInt x 1 && isInt y 1 && (match x, y with | .int n, .int d => decide (Int.gcd n d = 1) | _, _ => false)
  | _ => false
theorem isNum_ne {xs : List Da} (h : xs.length ≠ 2) : isNum (.tuple xs) = false := by
  match xs with
  | [] => rfl
  | [_] => rfl
  | [_, _] => exact absurd rfl h
  | _ :: _ :: _ :: _ => rfl
theorem isInt_some {d : Da} {m : Int} (h : isInt d m = true) : ∃ i, d = .int i ∧ m ≤ i := by
  cases d with
  | int i => exact ⟨i, rfl, of_decide_eq_true h⟩
  | _ => cases h
theorem isNum_some {v : Da} (h : isNum v = true) : ∃ n d : Int, v = num n d ∧ 1 ≤ n ∧ 1 ≤ d ∧ Int.gcd n d = 1 := by
  cases v with
  | tuple xs =>
    match xs, h with
    | [x, y], h =>
      simp only [isNum, Bool.and_eq_true] at h
      obtain ⟨n, rfl, hn⟩ := isInt_some h.1.1
      obtain ⟨d, rfl, hd⟩ := isInt_some h.1.2
      exact ⟨n, d, rfl, hn, hd, of_decide_eq_true h.2⟩
  | _ => cases h
theorem isNum_num {n d : Int} (hn : 1 ≤ n) (hd : 1 ≤ d) (h : Int.gcd n d = 1) : isNum (num n d) = true := by
  simp [isNum, isInt, hn, hd, h]
def fs_is_number : FSp := fun rs fu post => ∃ v, rs = [.val v] ∧ post (.val (.bool (isNum v))) fu
theorem p_is_number (rs : List Rv) (fu : Option Nat) (post : Rr → Option Nat → Prop) (hl : rs.length = 1) (h : fs_is_number rs fu post) : b_is_number ⟨fun g => post (.val .none) g.fu, fun r g => post r g.fu, fun _ => False, fun _ => False⟩ (ent N_is_number rs fu) := by
  obtain ⟨v, rfl, h⟩ := h
  cases v with
  | tuple xs =>
    simp only [↓dSeq, ↓dAsg, ↓dSetL, ↓dNext, ↓dIfS, ↓dRet, ↓dRetL, ↓dDrop, ↓dNever, ↓dBrk, ↓dCnt, ↓dAug, ↓dPar, ↓dPar3, ↓dParL, ↓dApp, ↓dExt, ↓dVar, ↓dC, ↓dBin, ↓fI, ↓fI0, ↓fAdd, ↓fEq, ↓fNe, ↓fIn, ↓dTest, ↓dAndT, ↓dOrT, ↓dNotT, ↓dAndV, ↓dOrV, ↓dNotV, ↓dIf, ↓dNeg, ↓dIsN, ↓dChain, ↓dNil, ↓dCons, ↓dTup, ↓dLst, ↓dFz, ↓valsD, ↓dIx, ↓dCall, ↓dCallL, ↓hasSrc, ↓rrv, ↓dN, ↓dT, ↓dTn, ↓dTc, ↓rsv, ↓Gs.set, ↓dFor, ↓dItems, ↓dRange1, ↓dRange2, ↓dZip, ↓dRev, ↓dLc, ↓dCB, ↓cLen, ↓cAll, ↓cTuple, ↓cInt, ↓cInt1, ↓cInt2, ↓dIsi, ↓dBits, ↓dSetS, ↓dCallS, ↓oSub, ↓oAddI, ↓oMul, ↓oDiv, ↓oMod, ↓oShl, ↓oShr, ↓oPow, ↓oAnd, ↓oLt, ↓oLe, ↓oGt, ↓oGe, ↓oAbs, ↓oMax, ↓oMin, ↓dCallK, ↓cRepr, ↓cSum, ↓cMinL, ↓cMaxL, ↓cSorted, ↓cSortedD, ↓cList, ↓dListR, ↓fInD, ↓fMulL, ↓dSl, ↓oNo, ↓oSo, ↓dBy, b_is_number, ent, svOf, List.map_cons, List.map_nil, List.cons_append, List.nil_append, List.append_nil, List.replicate, List.length_cons, List.length_nil, List.getElem?_cons_zero, List.getElem?_cons_succ, List.getElem?_nil, List.set_cons_zero, List.set_cons_succ, Option.map_some, Option.map_none, Option.isNone_some, Option.isNone_none, forall_const, true_implies, false_implies, and_true, true_and, Bool.true_eq_false, Bool.false_eq_true, reduceCtorEq, noOwn, wipeS, hide, fuN_self, lcD, dYes, Nat.zero_add, Nat.reduceAdd, Nat.reduceLeDiff, Nat.reduceSub, atI_0, atI_1, atI_2, atI_3, atI_4, atI_5, Int.one_mul, eqv_ii, eqv_ss, eqv_num, shaped_int, shaped_num, shaped_none, shaped_ru, flat_str, flat_int, flat_none, List.all_cons, List.all_nil, Bool.and_true, decide_eq_true_eq, decide_eq_false_iff_not, Bool.not_eq_true', Bool.not_eq_false', Decidable.not_not, ↓reduceIte, Bool.false_eq_true, Int.reduceLT, eqv_strs, pick_0, pick_01, pick_10, pick_012, pick_021, pick_102, pick_120, pick_201, pick_210]
    refine ⟨fun z => (by simp [isTy] at z), fun _ => ⟨fun z => ?_, fun z => ?_⟩⟩
    · have e : xs.length ≠ 2 := by omega
      rw [isNum_ne e] at h
      exact h
    · have e : xs.length = 2 := by omega
      match xs, e with
      | [x, y], _ =>
        simp only [↓dSeq, ↓dAsg, ↓dSetL, ↓dNext, ↓dIfS, ↓dRet, ↓dRetL, ↓dDrop, ↓dNever, ↓dBrk, ↓dCnt, ↓dAug, ↓dPar, ↓dPar3, ↓dParL, ↓dApp, ↓dExt, ↓dVar, ↓dC, ↓dBin, ↓fI, ↓fI0, ↓fAdd, ↓fEq, ↓fNe, ↓fIn, ↓dTest, ↓dAndT, ↓dOrT, ↓dNotT, ↓dAndV, ↓dOrV, ↓dNotV, ↓dIf, ↓dNeg, ↓dIsN, ↓dChain, ↓dNil, ↓dCons, ↓dTup, ↓dLst, ↓dFz, ↓valsD, ↓dIx, ↓dCall, ↓dCallL, ↓hasSrc, ↓rrv, ↓dN, ↓dT, ↓dTn, ↓dTc, ↓rsv, ↓Gs.set, ↓dFor, ↓dItems, ↓dRange1, ↓dRange2, ↓dZip, ↓dRev, ↓dLc, ↓dCB, ↓cLen, ↓cAll, ↓cTuple, ↓cInt, ↓cInt1, ↓cInt2, ↓dIsi, ↓dBits, ↓dSetS, ↓dCallS, ↓oSub, ↓oAddI, ↓oMul, ↓oDiv, ↓oMod, ↓oShl, ↓oShr, ↓oPow, ↓oAnd, ↓oLt, ↓oLe, ↓oGt, ↓oGe, ↓oAbs, ↓oMax, ↓oMin, ↓dCallK, ↓cRepr, ↓cSum, ↓cMinL, ↓cMaxL, ↓cSorted, ↓cSortedD, ↓cList, ↓dListR, ↓fInD, ↓fMulL, ↓dSl, ↓oNo, ↓oSo, ↓dBy, fs_is_int, ent, svOf, List.map_cons, List.map_nil, List.cons_append, List.nil_append, List.append_nil, List.replicate, List.length_cons, List.length_nil, List.getElem?_cons_zero, List.getElem?_cons_succ, List.getElem?_nil, List.set_cons_zero, List.set_cons_succ, Option.map_some, Option.map_none, Option.isNone_some, Option.isNone_none, forall_const, true_implies, false_implies, and_true, true_and, Bool.true_eq_false, Bool.false_eq_true, reduceCtorEq, noOwn, wipeS, hide, fuN_self, lcD, dYes, Nat.zero_add, Nat.reduceAdd, Nat.reduceLeDiff, Nat.reduceSub, atI_0, atI_1, atI_2, atI_3, atI_4, atI_5, Int.one_mul, eqv_ii, eqv_ss, eqv_num, shaped_int, shaped_num, shaped_none, shaped_ru, flat_str, flat_int, flat_none, List.all_cons, List.all_nil, Bool.and_true, decide_eq_true_eq, decide_eq_false_iff_not, Bool.not_eq_true', Bool.not_eq_false', Decidable.not_not, ↓reduceIte, Bool.false_eq_true, Int.reduceLT, eqv_strs, pick_0, pick_01, pick_10, pick_012, pick_021, pick_102, pick_120, pick_201, pick_210]
        refine ⟨x, 1, rfl, by decide, y, 1, rfl, by decide, ?_⟩
        simp only [boolsD, Option.map_some]
        simp only [isNum] at h
        refine ⟨fun hf => ?_, fun ht => ?_⟩
        · have : (isInt x 1 && isInt y 1) = false := by
            revert hf
            cases isInt x 1 <;> cases isInt y 1 <;> simp
          rw [this, Bool.false_and] at h
          exact h
        · have h12 : isInt x 1 = true ∧ isInt y 1 = true := by simpa using ht
          obtain ⟨n, rfl, hn⟩ := isInt_some h12.1
          obtain ⟨d, rfl, hd⟩ := isInt_some h12.2
          refine ⟨n, d, rfl, by omega, by omega, rfl, rfl, ?_⟩
          have e : ((PyData.int ((Int.gcd n d : Nat) : Int)).eqv (PyData.int 1)) = decide (Int.gcd n d = 1) := by
            simp only [PyData.eqv]
            rw [Bool.eq_iff_iff]
            simp
            omega
          rw [e]
          rw [h12.1, h12.2] at h
          simpa using h
  | _ => simp only [↓dSeq, ↓dAsg, ↓dSetL, ↓dNext, ↓dIfS, ↓dRet, ↓dRetL, ↓dDrop, ↓dNever, ↓dBrk, ↓dCnt, ↓dAug, ↓dPar, ↓dPar3, ↓dParL, ↓dApp, ↓dExt, ↓dVar, ↓dC, ↓dBin, ↓fI, ↓fI0, ↓fAdd, ↓fEq, ↓fNe, ↓fIn, ↓dTest, ↓dAndT, ↓dOrT, ↓dNotT, ↓dAndV, ↓dOrV, ↓dNotV, ↓dIf, ↓dNeg, ↓dIsN, ↓dChain, ↓dNil, ↓dCons, ↓dTup, ↓dLst, ↓dFz, ↓valsD, ↓dIx, ↓dCall, ↓dCallL, ↓hasSrc, ↓rrv, ↓dN, ↓dT, ↓dTn, ↓dTc, ↓rsv, ↓Gs.set, ↓dFor, ↓dItems, ↓dRange1, ↓dRange2, ↓dZip, ↓dRev, ↓dLc, ↓dCB, ↓cLen, ↓cAll, ↓cTuple, ↓cInt, ↓cInt1, ↓cInt2, ↓dIsi, ↓dBits, ↓dSetS, ↓dCallS, ↓oSub, ↓oAddI, ↓oMul, ↓oDiv, ↓oMod, ↓oShl, ↓oShr, ↓oPow, ↓oAnd, ↓oLt, ↓oLe, ↓oGt, ↓oGe, ↓oAbs, ↓oMax, ↓oMin, ↓dCallK, ↓cRepr, ↓cSum, ↓cMinL, ↓cMaxL, ↓cSorted, ↓cSortedD, ↓cList, ↓dListR, ↓fInD, ↓fMulL, ↓dSl, ↓oNo, ↓oSo, ↓dBy, b_is_number, ent, svOf, List.map_cons, List.map_nil, List.cons_append, List.nil_append, List.append_nil, List.replicate, List.length_cons, List.length_nil, List.getElem?_cons_zero, List.getElem?_cons_succ, List.getElem?_nil, List.set_cons_zero, List.set_cons_succ, Option.map_some, Option.map_none, Option.isNone_some, Option.isNone_none, forall_const, true_implies, false_implies, and_true, true_and, Bool.true_eq_false, Bool.false_eq_true, reduceCtorEq, noOwn, wipeS, hide, fuN_self, lcD, dYes, Nat.zero_add, Nat.reduceAdd, Nat.reduceLeDiff, Nat.reduceSub, atI_0, atI_1, atI_2, atI_3, atI_4, atI_5, Int.one_mul, eqv_ii, eqv_ss, eqv_num, shaped_int, shaped_num, shaped_none, shaped_ru, flat_str, flat_int, flat_none, List.all_cons, List.all_nil, Bool.and_true, decide_eq_true_eq, decide_eq_false_iff_not, Bool.not_eq_true', Bool.not_eq_false', Decidable.not_not, ↓reduceIte, Bool.false_eq_true, Int.reduceLT, eqv_strs, pick_0, pick_01, pick_10, pick_012, pick_021, pick_102, pick_120, pick_201, pick_210]; simpa [isTy, isNum] using h
section
variable {P : Program} {w : World} {K : Fg} {mg : Str → Option Value} {base : Heap}
theorem d_is_number (T : Tx w K mg) {cdv : Value} {A : Around} {outer : List Env} {s : Shared} {H : Hp} {E : XK} (hr : Room 1 (A.deeper (envOfC "is_number" (defScope st_is_number) s.heap.objs.size T.f_is_number cdv))) (hgd : (A.deeper (envOfC "is_number" (defScope st_is_number) s.heap.objs.size T.f_is_number cdv)).guards = some []) :
    PSs (cxOf CX0 P w K mg base N_is_number "is_number" (defScope st_is_number) T.f_is_number cdv A outer s H E).nox (defBody st_is_number) (upS K b_is_number) :=
  (ss_cons (s_if (PW.pt (w_or (t_not (t_val (e_isi kit_tuple (by rfl) T.n_isinstance (e_var 0 (pv 0)) (c_ty (by rfl) T.n_tuple (by decide +kernel))))) (w_or (t_ne hr.units (e_len (by rfl) T.n_len (a_cons (e_var 0 (pv 0)) a_nil)) (e_glob (by rfl) T.c_PAIR_cells T.v_PAIR_cells T.r_PAIR_cells)) (w_or1 (t_not (t_val (e_all rfl (by rfl) T.n_all (a_cons (e_fz (e_lc (own := [("part", 1)]) rfl sc_is_number.nd (i_items (e_var 0 (pv 0))) (blkOk_by (own := [("part", 1)]) (N := N_is_number) (sc := defScope st_is_number) (by decide +kernel)) (fun _ _ _ _ _ => (gw_name rfl (pg_name (i := 1) sc_is_number.nd rfl (.inl rfl)) (by decide))) (fun _ _ _ _ _ => ts_yes) (fun _ _ _ _ _ => (e_call (ok_is_int T) (hr.mono (by decide)) hgd (by rfl) T.g_is_int T.F_is_int.kp T.b_is_int pass0 (a_cons (e_var 1 (pv 1)) (a_cons e_int a_nil)))))) a_nil)))))))) (ss_one (s_ret e_bl)) ss_nil)
    (ss_one (s_ret (e_eq hr.units (e_call (ok_common_divisor T) (hr.mono (by decide)) hgd (by rfl) T.g_common_divisor T.F_common_divisor.kp T.b_common_divisor pass0 (a_cons (e_ix (e_var 0 (pv 0)) e_int) (a_cons (e_ix (e_var 0 (pv 0)) e_int) a_nil))) e_int))))
theorem ok_is_number (T : Tx w K mg) : Fn P w K mg base CX0 2 T.f_is_number T.fd_is_number ["value"] (lift K 1 fs_is_number) := fn_data T.F_is_number sc_is_number b_is_number (fun _ _ _ _ _ _ hr hgd => d_is_number T hr hgd) p_is_number
end
--@@ is_width
def b_is_width : DS :=
  (dRet (dAndV (dCall 2 fs_is_int (dCons (dVar 0) (dCons (dC (.int 1)) dNil))) (dBin oLe (dVar 0) (dC (.int 100)))))
def isWid (v : Da) : Bool := isInt v 1 && (match v with | .int i => decide (i ≤ 100) | _ => false)
theorem isWid_int {w : Int} (h1 : 1 ≤ w) (h2 : w ≤ 100) : isWid (.int w) = true := by simp [isWid, isInt, h1, h2]
def fs_is_width : FSp := fun rs fu post => ∃ v, rs = [.val v] ∧ post (.val (.bool (isWid v))) fu
theorem p_is_width (rs : List Rv) (fu : Option Nat) (post : Rr → Option Nat → Prop) (hl : rs.length = 1) (h : fs_is_width rs fu post) : b_is_width ⟨fun g => post (.val .none) g.fu, fun r g => post r g.fu, fun _ => False, fun _ => False⟩ (ent N_is_width rs fu) := by
  obtain ⟨v, rfl, h⟩ := h
  simp only [↓dSeq, ↓dAsg, ↓dSetL, ↓dNext, ↓dIfS, ↓dRet, ↓dRetL, ↓dDrop, ↓dNever, ↓dBrk, ↓dCnt, ↓dAug, ↓dPar, ↓dPar3, ↓dParL, ↓dApp, ↓dExt, ↓dVar, ↓dC, ↓dBin, ↓fI, ↓fI0, ↓fAdd, ↓fEq, ↓fNe, ↓fIn, ↓dTest, ↓dAndT, ↓dOrT, ↓dNotT, ↓dAndV, ↓dOrV, ↓dNotV, ↓dIf, ↓dNeg, ↓dIsN, ↓dChain, ↓dNil, ↓dCons, ↓dTup, ↓dLst, ↓dFz, ↓valsD, ↓dIx, ↓dCall, ↓dCallL, ↓hasSrc, ↓rrv, ↓dN, ↓dT, ↓dTn, ↓dTc, ↓rsv, ↓Gs.set, ↓dFor, ↓dItems, ↓dRange1, ↓dRange2, ↓dZip, ↓dRev, ↓dLc, ↓dCB, ↓cLen, ↓cAll, ↓cTuple, ↓cInt, ↓cInt1, ↓cInt2, ↓dIsi, ↓dBits, ↓dSetS, ↓dCallS, ↓oSub, ↓oAddI, ↓oMul, ↓oDiv, ↓oMod, ↓oShl, ↓oShr, ↓oPow, ↓oAnd, ↓oLt, ↓oLe, ↓oGt, ↓oGe, ↓oAbs, ↓oMax, ↓oMin, ↓dCallK, ↓cRepr, ↓cSum, ↓cMinL, ↓cMaxL, ↓cSorted, ↓cSortedD, ↓cList, ↓dListR, ↓fInD, ↓fMulL, ↓dSl, ↓oNo, ↓oSo, ↓dBy, b_is_width, fs_is_int, ent, svOf, List.map_cons, List.map_nil, List.cons_append, List.nil_append, List.append_nil, List.replicate, List.length_cons, List.length_nil, List.getElem?_cons_zero, List.getElem?_cons_succ, List.getElem?_nil, List.set_cons_zero, List.set_cons_succ, Option.map_some, Option.map_none, Option.isNone_some, Option.isNone_none, forall_const, true_implies, false_implies, and_true, true_and, Bool.true_eq_false, Bool.false_eq_true, reduceCtorEq, noOwn, wipeS, hide, fuN_self, lcD, dYes, Nat.zero_add, Nat.reduceAdd, Nat.reduceLeDiff, Nat.reduceSub, atI_0, atI_1, atI_2, atI_3, atI_4, atI_5, Int.one_mul, eqv_ii, eqv_ss, eqv_num, shaped_int, shaped_num, shaped_none, shaped_ru, flat_str, flat_int, flat_none, List.all_cons, List.all_nil, Bool.and_true, decide_eq_true_eq, decide_eq_false_iff_not, Bool.not_eq_true', Bool.not_eq_false', Decidable.not_not, ↓reduceIte, Bool.false_eq_true, Int.reduceLT, eqv_strs, pick_0, pick_01, pick_10, pick_012, pick_021, pick_102, pick_120, pick_201, pick_210]
  refine ⟨v, 1, rfl, fun ht => ?_, fun hf => ?_⟩
  · obtain ⟨n, rfl, hn⟩ := isInt_some ht
    simpa [isWid, ht] using h
  · simpa [isWid, hf] using h
section
variable {P : Program} {w : World} {K : Fg} {mg : Str → Option Value} {base : Heap}
theorem d_is_width (T : Tx w K mg) {cdv : Value} {A : Around} {outer : List Env} {s : Shared} {H : Hp} {E : XK} (hr : Room 1 (A.deeper (envOfC "is_width" (defScope st_is_width) s.heap.objs.size T.f_is_width cdv))) (hgd : (A.deeper (envOfC "is_width" (defScope st_is_width) s.heap.objs.size T.f_is_width cdv)).guards = some []) :
    PSs (cxOf CX0 P w K mg base N_is_width "is_width" (defScope st_is_width) T.f_is_width cdv A outer s H E).nox (defBody st_is_width) (upS K b_is_width) :=
  (ss_one (s_ret (e_and (e_call (ok_is_int T) (hr.mono (by decide)) hgd (by rfl) T.g_is_int T.F_is_int.kp T.b_is_int pass0 (a_cons (e_var 0 (pv 0)) (a_cons e_int a_nil))) (e_one (e_le (e_var 0 (pv 0)) (e_glob (by rfl) T.c_MOST_WIDTH T.v_MOST_WIDTH T.r_MOST_WIDTH))))))
theorem ok_is_width (T : Tx w K mg) : Fn P w K mg base CX0 2 T.f_is_width T.fd_is_width ["value"] (lift K 1 fs_is_width) := fn_data T.F_is_width sc_is_width b_is_width (fun _ _ _ _ _ _ hr hgd => d_is_width T hr hgd) p_is_width
end
--@@ check_number
def b_check_number : DS :=
  (dIfS (dNotT (dTest (dCall 1 fs_is_number (dCons (dVar 0) dNil))))
    dNever
    dNext)
theorem _root_.Z.NuB.is {a : Nat} {n d : Int} (h : NuB a n d) : isNum (num n d) = true := isNum_num (by have := h.nu.n0; omega) (by have := h.nu.d0; omega) h.nu.g
def fs_check_number : FSp := fun rs fu post => ∃ v, rs = [.val v] ∧ isNum v = true ∧ post (.val .none) fu
theorem p_check_number (rs : List Rv) (fu : Option Nat) (post : Rr → Option Nat → Prop) (hl : rs.length = 1) (h : fs_check_number rs fu post) : b_check_number ⟨fun g => post (.val .none) g.fu, fun r g => post r g.fu, fun _ => False, fun _ => False⟩ (ent N_check_number rs fu) := by
  obtain ⟨v, rfl, hv, h⟩ := h
  simp only [↓dSeq, ↓dAsg, ↓dSetL, ↓dNext, ↓dIfS, ↓dRet, ↓dRetL, ↓dDrop, ↓dNever, ↓dBrk, ↓dCnt, ↓dAug, ↓dPar, ↓dPar3, ↓dParL, ↓dApp, ↓dExt, ↓dVar, ↓dC, ↓dBin, ↓fI, ↓fI0, ↓fAdd, ↓fEq, ↓fNe, ↓fIn, ↓dTest, ↓dAndT, ↓dOrT, ↓dNotT, ↓dAndV, ↓dOrV, ↓dNotV, ↓dIf, ↓dNeg, ↓dIsN, ↓dChain, ↓dNil, ↓dCons, ↓dTup, ↓dLst, ↓dFz, ↓valsD, ↓dIx, ↓dCall, ↓dCallL, ↓hasSrc, ↓rrv, ↓dN, ↓dT, ↓dTn, ↓dTc, ↓rsv, ↓Gs.set, ↓dFor, ↓dItems, ↓dRange1, ↓dRange2, ↓dZip, ↓dRev, ↓dLc, ↓dCB, ↓cLen, ↓cAll, ↓cTuple, ↓cInt, ↓cInt1, ↓cInt2, ↓dIsi, ↓dBits, ↓dSetS, ↓dCallS, ↓oSub, ↓oAddI, ↓oMul, ↓oDiv, ↓oMod, ↓oShl, ↓oShr, ↓oPow, ↓oAnd, ↓oLt, ↓oLe, ↓oGt, ↓oGe, ↓oAbs, ↓oMax, ↓oMin, ↓dCallK, ↓cRepr, ↓cSum, ↓cMinL, ↓cMaxL, ↓cSorted, ↓cSortedD, ↓cList, ↓dListR, ↓fInD, ↓fMulL, ↓dSl, ↓oNo, ↓oSo, ↓dBy, b_check_number, fs_is_number, ent, svOf, List.map_cons, List.map_nil, List.cons_append, List.nil_append, List.append_nil, List.replicate, List.length_cons, List.length_nil, List.getElem?_cons_zero, List.getElem?_cons_succ, List.getElem?_nil, List.set_cons_zero, List.set_cons_succ, Option.map_some, Option.map_none, Option.isNone_some, Option.isNone_none, forall_const, true_implies, false_implies, and_true, true_and, Bool.true_eq_false, Bool.false_eq_true, reduceCtorEq, noOwn, wipeS, hide, fuN_self, lcD, dYes, Nat.zero_add, Nat.reduceAdd, Nat.reduceLeDiff, Nat.reduceSub, atI_0, atI_1, atI_2, atI_3, atI_4, atI_5, Int.one_mul, eqv_ii, eqv_ss, eqv_num, shaped_int, shaped_num, shaped_none, shaped_ru, flat_str, flat_int, flat_none, List.all_cons, List.all_nil, Bool.and_true, decide_eq_true_eq, decide_eq_false_iff_not, Bool.not_eq_true', Bool.not_eq_false', Decidable.not_not, ↓reduceIte, Bool.false_eq_true, Int.reduceLT, eqv_strs, pick_0, pick_01, pick_10, pick_012, pick_021, pick_102, pick_120, pick_201, pick_210]
  refine ⟨v, rfl, fun z => ?_, fun _ => h⟩
  rw [hv] at z
  exact absurd z (by decide)
section
variable {P : Program} {w : World} {K : Fg} {mg : Str → Option Value} {base : Heap}
theorem d_check_number (T : Tx w K mg) {cdv : Value} {A : Around} {outer : List Env} {s : Shared} {H : Hp} {E : XK} (hr : Room 2 (A.deeper (envOfC "check_number" (defScope st_check_number) s.heap.objs.size T.f_check_number cdv))) (hgd : (A.deeper (envOfC "check_number" (defScope st_check_number) s.heap.objs.size T.f_check_number cdv)).guards = some []) :
    PSs (cxOf CX0 P w K mg base N_check_number "check_number" (defScope st_check_number) T.f_check_number cdv A outer s H E).nox (defBody st_check_number) (upS K b_check_number) :=
  (ss_one (s_if (t_not (t_val (e_call (ok_is_number T) (hr.mono (by decide)) hgd (by rfl) T.g_is_number T.F_is_number.kp T.b_is_number pass0 (a_cons (e_var 0 (pv 0)) a_nil)))) (ss_one s_never) ss_nil))
theorem ok_check_number (T : Tx w K mg) : Fn P w K mg base CX0 3 T.f_check_number T.fd_check_number ["value"] (lift K 1 fs_check_number) := fn_data T.F_check_number sc_check_number b_check_number (fun _ _ _ _ _ _ hr hgd => d_check_number T hr hgd) p_check_number
end
--@@ check_width
def b_check_width : DS :=
  (dIfS (dNotT (dTest (dCall 1 fs_is_width (dCons (dVar 0) dNil))))
    dNever
    dNext)
def fs_check_width : FSp := fun rs fu post => ∃ v, rs = [.val v] ∧ isWid v = true ∧ post (.val .none) fu
theorem p_check_width (rs : List Rv) (fu : Option Nat) (post : Rr → Option Nat → Prop) (hl : rs.length = 1) (h : fs_check_width rs fu post) : b_check_width ⟨fun g => post (.val .none) g.fu, fun r g => post r g.fu, fun _ => False, fun _ => False⟩ (ent N_check_width rs fu) := by
  obtain ⟨v, rfl, hv, h⟩ := h
  simp only [↓dSeq, ↓dAsg, ↓dSetL, ↓dNext, ↓dIfS, ↓dRet, ↓dRetL, ↓dDrop, ↓dNever, ↓dBrk, ↓dCnt, ↓dAug, ↓dPar, ↓dPar3, ↓dParL, ↓dApp, ↓dExt, ↓dVar, ↓dC, ↓dBin, ↓fI, ↓fI0, ↓fAdd, ↓fEq, ↓fNe, ↓fIn, ↓dTest, ↓dAndT, ↓dOrT, ↓dNotT, ↓dAndV, ↓dOrV, ↓dNotV, ↓dIf, ↓dNeg, ↓dIsN, ↓dChain, ↓dNil, ↓dCons, ↓dTup, ↓dLst, ↓dFz, ↓valsD, ↓dIx, ↓dCall, ↓dCallL, ↓hasSrc, ↓rrv, ↓dN, ↓dT, ↓dTn, ↓dTc, ↓rsv, ↓Gs.set, ↓dFor, ↓dItems, ↓dRange1, ↓dRange2, ↓dZip, ↓dRev, ↓dLc, ↓dCB, ↓cLen, ↓cAll, ↓cTuple, ↓cInt, ↓cInt1, ↓cInt2, ↓dIsi, ↓dBits, ↓dSetS, ↓dCallS, ↓oSub, ↓oAddI, ↓oMul, ↓oDiv, ↓oMod, ↓oShl, ↓oShr, ↓oPow, ↓oAnd, ↓oLt, ↓oLe, ↓oGt, ↓oGe, ↓oAbs, ↓oMax, ↓oMin, ↓dCallK, ↓cRepr, ↓cSum, ↓cMinL, ↓cMaxL, ↓cSorted, ↓cSortedD, ↓cList, ↓dListR, ↓fInD, ↓fMulL, ↓dSl, ↓oNo, ↓oSo, ↓dBy, b_check_width, fs_is_width, ent, svOf, List.map_cons, List.map_nil, List.cons_append, List.nil_append, List.append_nil, List.replicate, List.length_cons, List.length_nil, List.getElem?_cons_zero, List.getElem?_cons_succ, List.getElem?_nil, List.set_cons_zero, List.set_cons_succ, Option.map_some, Option.map_none, Option.isNone_some, Option.isNone_none, forall_const, true_implies, false_implies, and_true, true_and, Bool.true_eq_false, Bool.false_eq_true, reduceCtorEq, noOwn, wipeS, hide, fuN_self, lcD, dYes, Nat.zero_add, Nat.reduceAdd, Nat.reduceLeDiff, Nat.reduceSub, atI_0, atI_1, atI_2, atI_3, atI_4, atI_5, Int.one_mul, eqv_ii, eqv_ss, eqv_num, shaped_int, shaped_num, shaped_none, shaped_ru, flat_str, flat_int, flat_none, List.all_cons, List.all_nil, Bool.and_true, decide_eq_true_eq, decide_eq_false_iff_not, Bool.not_eq_true', Bool.not_eq_false', Decidable.not_not, ↓reduceIte, Bool.false_eq_true, Int.reduceLT, eqv_strs, pick_0, pick_01, pick_10, pick_012, pick_021, pick_102, pick_120, pick_201, pick_210]
  refine ⟨v, rfl, fun z => ?_, fun _ => h⟩
  rw [hv] at z
  exact absurd z (by decide)
section
variable {P : Program} {w : World} {K : Fg} {mg : Str → Option Value} {base : Heap}
theorem d_check_width (T : Tx w K mg) {cdv : Value} {A : Around} {outer : List Env} {s : Shared} {H : Hp} {E : XK} (hr : Room 2 (A.deeper (envOfC "check_width" (defScope st_check_width) s.heap.objs.size T.f_check_width cdv))) (hgd : (A.deeper (envOfC "check_width" (defScope st_check_width) s.heap.objs.size T.f_check_width cdv)).guards = some []) :
    PSs (cxOf CX0 P w K mg base N_check_width "check_width" (defScope st_check_width) T.f_check_width cdv A outer s H E).nox (defBody st_check_width) (upS K b_check_width) :=
  (ss_one (s_if (t_not (t_val (e_call (ok_is_width T) (hr.mono (by decide)) hgd (by rfl) T.g_is_width T.F_is_width.kp T.b_is_width pass0 (a_cons (e_var 0 (pv 0)) a_nil)))) (ss_one s_never) ss_nil))
theorem ok_check_width (T : Tx w K mg) : Fn P w K mg base CX0 3 T.f_check_width T.fd_check_width ["value"] (lift K 1 fs_check_width) := fn_data T.F_check_width sc_check_width b_check_width (fun _ _ _ _ _ _ hr hgd => d_check_width T hr hgd) p_check_width
end
--@@ scaled
def b_scaled : DS :=
  (dSeq (dAsg (dVar 0) (dT 2 (dTc (dN 2) (dTc (dN 3) dTn))))
  (dRet (dTup (dCons (dBin oShl (dVar 2) (dCB oMax (dCons (dVar 1) (dCons (dC (.int 0)) dNil)))) (dCons (dBin oShl (dVar 3) (dCB oMax (dCons (dBin oSub (dC (.int 0)) (dVar 1)) (dCons (dC (.int 0)) dNil)))) dNil)))))
theorem max0 (e : Int) : (if (0 : Int) > e then 0 else e).toNat = e.toNat := by
  split <;> omega
theorem max0n (e : Int) : (if (0 : Int) > 0 - e then 0 else 0 - e).toNat = (-e).toNat := by
  split <;> omega
theorem max0nn (e : Int) : 0 ≤ (if (0 : Int) > e then 0 else e) := by
  split <;> omega
theorem max0le {e b : Int} (h : e ≤ b) (hb : 0 ≤ b) : (if (0 : Int) > e then 0 else e) ≤ b := by
  split <;> omega
theorem max0w {e w : Int} (hw : 0 ≤ w) : ((if (0 : Int) > e then 0 else e) + w).toNat = (-(0 - e)).toNat + w.toNat := by
  split <;> omega
theorem max0e {e : Int} : (if (0 : Int) > e then 0 else e).toNat = (-(0 - e)).toNat := by
  split <;> omega
def fs_scaled : FSp := fun rs fu post => ∃ n d e : Int, rs = [.val (num n d), .val (.int e)] ∧ Bn 100000 n ∧ Bn 100000 d ∧ -100000 ≤ e ∧ e ≤ 100000 ∧ post (.val (nm (scI n d e))) fu
theorem p_scaled (rs : List Rv) (fu : Option Nat) (post : Rr → Option Nat → Prop) (hl : rs.length = 2) (h : fs_scaled rs fu post) : b_scaled ⟨fun g => post (.val .none) g.fu, fun r g => post r g.fu, fun _ => False, fun _ => False⟩ (ent N_scaled rs fu) := by
  obtain ⟨n, d, e, rfl, hn, hd, h1, h2, h⟩ := h
  simp only [↓dSeq, ↓dAsg, ↓dSetL, ↓dNext, ↓dIfS, ↓dRet, ↓dRetL, ↓dDrop, ↓dNever, ↓dBrk, ↓dCnt, ↓dAug, ↓dPar, ↓dPar3, ↓dParL, ↓dApp, ↓dExt, ↓dVar, ↓dC, ↓dBin, ↓fI, ↓fI0, ↓fAdd, ↓fEq, ↓fNe, ↓fIn, ↓dTest, ↓dAndT, ↓dOrT, ↓dNotT, ↓dAndV, ↓dOrV, ↓dNotV, ↓dIf, ↓dNeg, ↓dIsN, ↓dChain, ↓dNil, ↓dCons, ↓dTup, ↓dLst, ↓dFz, ↓valsD, ↓dIx, ↓dCall, ↓dCallL, ↓hasSrc, ↓rrv, ↓dN, ↓dT, ↓dTn, ↓dTc, ↓rsv, ↓Gs.set, ↓dFor, ↓dItems, ↓dRange1, ↓dRange2, ↓dZip, ↓dRev, ↓dLc, ↓dCB, ↓cLen, ↓cAll, ↓cTuple, ↓cInt, ↓cInt1, ↓cInt2, ↓dIsi, ↓dBits, ↓dSetS, ↓dCallS, ↓oSub, ↓oAddI, ↓oMul, ↓oDiv, ↓oMod, ↓oShl, ↓oShr, ↓oPow, ↓oAnd, ↓oLt, ↓oLe, ↓oGt, ↓oGe, ↓oAbs, ↓oMax, ↓oMin, ↓dCallK, ↓cRepr, ↓cSum, ↓cMinL, ↓cMaxL, ↓cSorted, ↓cSortedD, ↓cList, ↓dListR, ↓fInD, ↓fMulL, ↓dSl, ↓oNo, ↓oSo, ↓dBy, b_scaled, ent, svOf, List.map_cons, List.map_nil, List.cons_append, List.nil_append, List.append_nil, List.replicate, List.length_cons, List.length_nil, List.getElem?_cons_zero, List.getElem?_cons_succ, List.getElem?_nil, List.set_cons_zero, List.set_cons_succ, Option.map_some, Option.map_none, Option.isNone_some, Option.isNone_none, forall_const, true_implies, false_implies, and_true, true_and, Bool.true_eq_false, Bool.false_eq_true, reduceCtorEq, noOwn, wipeS, hide, fuN_self, lcD, dYes, Nat.zero_add, Nat.reduceAdd, Nat.reduceLeDiff, Nat.reduceSub, atI_0, atI_1, atI_2, atI_3, atI_4, atI_5, Int.one_mul, eqv_ii, eqv_ss, eqv_num, shaped_int, shaped_num, shaped_none, shaped_ru, flat_str, flat_int, flat_none, List.all_cons, List.all_nil, Bool.and_true, decide_eq_true_eq, decide_eq_false_iff_not, Bool.not_eq_true', Bool.not_eq_false', Decidable.not_not, ↓reduceIte, Bool.false_eq_true, Int.reduceLT, eqv_strs, pick_0, pick_01, pick_10, pick_012, pick_021, pick_102, pick_120, pick_201, pick_210]
  have b1 := max0le (e := e) (b := 100000) h2 (by decide)
  have b2 := max0le (e := 0 - e) (b := 100000) (by omega) (by decide)
  refine ⟨shlX 100000 hn (max0nn _) (by omega), shlX 100000 hd (max0nn _) (by omega), ?_⟩
  rw [max0, max0n]
  exact h
section
variable {P : Program} {w : World} {K : Fg} {mg : Str → Option Value} {base : Heap}
theorem d_scaled (T : Tx w K mg) {cdv : Value} {A : Around} {outer : List Env} {s : Shared} {H : Hp} {E : XK} (hr : Room 0 (A.deeper (envOfC "scaled" (defScope st_scaled) s.heap.objs.size T.f_scaled cdv))) (hgd : (A.deeper (envOfC "scaled" (defScope st_scaled) s.heap.objs.size T.f_scaled cdv)).guards = some []) :
    PSs (cxOf CX0 P w K mg base N_scaled "scaled" (defScope st_scaled) T.f_scaled cdv A outer s H E).nox (defBody st_scaled) (upS K b_scaled) :=
  (ss_cons (s_asg (e_var 0 (pv 0)) (g_tup rfl (gs_cons (g_name (pg_name (i := 2) sc_scaled.nd rfl (.inl rfl))) (gs_cons (g_name (pg_name (i := 3) sc_scaled.nd rfl (.inl rfl))) gs_nil))))
    (ss_one (s_ret (e_tup (a_cons (e_shl (e_var 2 (pv 2)) (e_max rfl (by rfl) T.n_max (a_cons (e_var 1 (pv 1)) (a_cons e_int a_nil)))) (a_cons (e_shl (e_var 3 (pv 3)) (e_max rfl (by rfl) T.n_max (a_cons (e_sub e_int (e_var 1 (pv 1))) (a_cons e_int a_nil)))) a_nil))))))
theorem ok_scaled (T : Tx w K mg) : Fn P w K mg base CX0 1 T.f_scaled T.fd_scaled ["number", "e"] (lift K 2 fs_scaled) := fn_data T.F_scaled sc_scaled b_scaled (fun _ _ _ _ _ _ hr hgd => d_scaled T hr hgd) p_scaled
end
--@@ power_number
def b_power_number : DS :=
  (dSeq (dAsg (dCall 2 fs_scaled (dCons (dTup (dCons (dVar 0) (dCons (dC (.int 1)) dNil))) (dCons (dVar 1) dNil))) (dT 2 (dTc (dN 2) (dTc (dN 3) dTn))))
  (dRet (dCall 2 fs_lowest (dCons (dVar 2) (dCons (dVar 3) dNil)))))
def fs_power_number : FSp := fun rs fu post => ∃ k e : Int, rs = [.val (.int k), .val (.int e)] ∧ 0 ≤ k ∧ Bn 5000 k ∧ -8000 ≤ e ∧ e ≤ 8000 ∧ post (.val (nm (powI k e))) fu
theorem p_power_number (rs : List Rv) (fu : Option Nat) (post : Rr → Option Nat → Prop) (hl : rs.length = 2) (h : fs_power_number rs fu post) : b_power_number ⟨fun g => post (.val .none) g.fu, fun r g => post r g.fu, fun _ => False, fun _ => False⟩ (ent N_power_number rs fu) := by
  obtain ⟨k, e, rfl, h0, hk, h1, h2, h⟩ := h
  simp only [↓dSeq, ↓dAsg, ↓dSetL, ↓dNext, ↓dIfS, ↓dRet, ↓dRetL, ↓dDrop, ↓dNever, ↓dBrk, ↓dCnt, ↓dAug, ↓dPar, ↓dPar3, ↓dParL, ↓dApp, ↓dExt, ↓dVar, ↓dC, ↓dBin, ↓fI, ↓fI0, ↓fAdd, ↓fEq, ↓fNe, ↓fIn, ↓dTest, ↓dAndT, ↓dOrT, ↓dNotT, ↓dAndV, ↓dOrV, ↓dNotV, ↓dIf, ↓dNeg, ↓dIsN, ↓dChain, ↓dNil, ↓dCons, ↓dTup, ↓dLst, ↓dFz, ↓valsD, ↓dIx, ↓dCall, ↓dCallL, ↓hasSrc, ↓rrv, ↓dN, ↓dT, ↓dTn, ↓dTc, ↓rsv, ↓Gs.set, ↓dFor, ↓dItems, ↓dRange1, ↓dRange2, ↓dZip, ↓dRev, ↓dLc, ↓dCB, ↓cLen, ↓cAll, ↓cTuple, ↓cInt, ↓cInt1, ↓cInt2, ↓dIsi, ↓dBits, ↓dSetS, ↓dCallS, ↓oSub, ↓oAddI, ↓oMul, ↓oDiv, ↓oMod, ↓oShl, ↓oShr, ↓oPow, ↓oAnd, ↓oLt, ↓oLe, ↓oGt, ↓oGe, ↓oAbs, ↓oMax, ↓oMin, ↓dCallK, ↓cRepr, ↓cSum, ↓cMinL, ↓cMaxL, ↓cSorted, ↓cSortedD, ↓cList, ↓dListR, ↓fInD, ↓fMulL, ↓dSl, ↓oNo, ↓oSo, ↓dBy, b_power_number, fs_scaled, fs_lowest, ent, svOf, List.map_cons, List.map_nil, List.cons_append, List.nil_append, List.append_nil, List.replicate, List.length_cons, List.length_nil, List.getElem?_cons_zero, List.getElem?_cons_succ, List.getElem?_nil, List.set_cons_zero, List.set_cons_succ, Option.map_some, Option.map_none, Option.isNone_some, Option.isNone_none, forall_const, true_implies, false_implies, and_true, true_and, Bool.true_eq_false, Bool.false_eq_true, reduceCtorEq, noOwn, wipeS, hide, fuN_self, lcD, dYes, Nat.zero_add, Nat.reduceAdd, Nat.reduceLeDiff, Nat.reduceSub, atI_0, atI_1, atI_2, atI_3, atI_4, atI_5, Int.one_mul, eqv_ii, eqv_ss, eqv_num, shaped_int, shaped_num, shaped_none, shaped_ru, flat_str, flat_int, flat_none, List.all_cons, List.all_nil, Bool.and_true, decide_eq_true_eq, decide_eq_false_iff_not, Bool.not_eq_true', Bool.not_eq_false', Decidable.not_not, ↓reduceIte, Bool.false_eq_true, Int.reduceLT, eqv_strs, pick_0, pick_01, pick_10, pick_012, pick_021, pick_102, pick_120, pick_201, pick_210]
  refine ⟨k, 1, e, rfl, hk.mono (by decide), Bn.small (by decide) (by decide) (by decide), by omega, by omega, ?_⟩
  refine ⟨_, _, rfl, Int.mul_nonneg h0 (Int.le_of_lt (pow2_pos _)), ?_, ?_, h⟩
  · rw [scI, Int.one_mul]; exact pow2_pos _
  · rw [scI, Int.one_mul]
    exact Bn.pow2 (by omega)
section
variable {P : Program} {w : World} {K : Fg} {mg : Str → Option Value} {base : Heap}
theorem d_power_number (T : Tx w K mg) {cdv : Value} {A : Around} {outer : List Env} {s : Shared} {H : Hp} {E : XK} (hr : Room 2 (A.deeper (envOfC "power_number" (defScope st_power_number) s.heap.objs.size T.f_power_number cdv))) (hgd : (A.deeper (envOfC "power_number" (defScope st_power_number) s.heap.objs.size T.f_power_number cdv)).guards = some []) :
    PSs (cxOf CX0 P w K mg base N_power_number "power_number" (defScope st_power_number) T.f_power_number cdv A outer s H E).nox (defBody st_power_number) (upS K b_power_number) :=
  (ss_cons (s_asg (e_call (ok_scaled T) (hr.mono (by decide)) hgd (by rfl) T.g_scaled T.F_scaled.kp T.b_scaled pass0 (a_cons (e_tup (a_cons (e_var 0 (pv 0)) (a_cons e_int a_nil))) (a_cons (e_var 1 (pv 1)) a_nil))) (g_tup rfl (gs_cons (g_name (pg_name (i := 2) sc_power_number.nd rfl (.inl rfl))) (gs_cons (g_name (pg_name (i := 3) sc_power_number.nd rfl (.inl rfl))) gs_nil))))
    (ss_one (s_ret (e_call (ok_lowest T) (hr.mono (by decide)) hgd (by rfl) T.g_lowest T.F_lowest.kp T.b_lowest pass0 (a_cons (e_var 2 (pv 2)) (a_cons (e_var 3 (pv 3)) a_nil))))))
theorem ok_power_number (T : Tx w K mg) : Fn P w K mg base CX0 3 T.f_power_number T.fd_power_number ["k", "e"] (lift K 2 fs_power_number) := fn_data T.F_power_number sc_power_number b_power_number (fun _ _ _ _ _ _ hr hgd => d_power_number T hr hgd) p_power_number
end
--@@ cell_of
def b_cell_of : DS :=
  (dSeq (dAsg (dBin oSub (dBin oSub (dBits (dIx (dVar 0) (dC (.int 0)))) (dBits (dIx (dVar 0) (dC (.int 1))))) (dVar 1)) (dN 2))
  (dSeq (dAsg (dCall 2 fs_scaled (dCons (dVar 0) (dCons (dBin oSub (dC (.int 0)) (dVar 2)) dNil))) (dT 2 (dTc (dN 3) (dTc (dN 4) dTn))))
  (dSeq (dIfS (dTest (dBin oGe (dBin oDiv (dVar 3) (dVar 4)) (dBin oShl (dC (.int 1)) (dVar 1))))
    (dSeq (dAug 2 oAddI (dC (.int 1)))
  (dAsg (dCall 2 fs_scaled (dCons (dVar 0) (dCons (dBin oSub (dC (.int 0)) (dVar 2)) dNil))) (dT 2 (dTc (dN 3) (dTc (dN 4) dTn)))))
    dNext)
  (dRet (dTup (dCons (dBin oDiv (dVar 3) (dVar 4)) (dCons (dVar 2) dNil)))))))
theorem scI_div {n d f : Int} {b : Nat} (hd : 0 < d) (bd : Bn b d) (h : (b : Int) + -f ≤ 8998) (hb : b ≤ 8998) : CDivW (scI n d f).1 (scI n d f).2 :=
  divX 9000 (Int.mul_pos hd (pow2_pos _)) ((shlB bd).mono (by omega)) (Nat.le_refl _)
def fs_cell_of : FSp := fun rs fu post => ∃ n d w : Int, rs = [.val (num n d), .val (.int w)] ∧ 0 < n ∧ Bn 4000 n ∧ 0 < d ∧ Bn 4000 d ∧ 1 ≤ w ∧ w ≤ 100 ∧ post (.val (nm (cellI n d w))) fu
theorem p_cell_of (rs : List Rv) (fu : Option Nat) (post : Rr → Option Nat → Prop) (hl : rs.length = 2) (h : fs_cell_of rs fu post) : b_cell_of ⟨fun g => post (.val .none) g.fu, fun r g => post r g.fu, fun _ => False, fun _ => False⟩ (ent N_cell_of rs fu) := by
  obtain ⟨n, d, w, rfl, hn, bn, hd, bd, h1, h2, h⟩ := h
  have e1 := bl_le bn
  have e2 := bl_le bd
  have e3 := bl_nn n
  have e4 := bl_nn d
  simp only [↓dSeq, ↓dAsg, ↓dSetL, ↓dNext, ↓dIfS, ↓dRet, ↓dRetL, ↓dDrop, ↓dNever, ↓dBrk, ↓dCnt, ↓dAug, ↓dPar, ↓dPar3, ↓dParL, ↓dApp, ↓dExt, ↓dVar, ↓dC, ↓dBin, ↓fI, ↓fI0, ↓fAdd, ↓fEq, ↓fNe, ↓fIn, ↓dTest, ↓dAndT, ↓dOrT, ↓dNotT, ↓dAndV, ↓dOrV, ↓dNotV, ↓dIf, ↓dNeg, ↓dIsN, ↓dChain, ↓dNil, ↓dCons, ↓dTup, ↓dLst, ↓dFz, ↓valsD, ↓dIx, ↓dCall, ↓dCallL, ↓hasSrc, ↓rrv, ↓dN, ↓dT, ↓dTn, ↓dTc, ↓rsv, ↓Gs.set, ↓dFor, ↓dItems, ↓dRange1, ↓dRange2, ↓dZip, ↓dRev, ↓dLc, ↓dCB, ↓cLen, ↓cAll, ↓cTuple, ↓cInt, ↓cInt1, ↓cInt2, ↓dIsi, ↓dBits, ↓dSetS, ↓dCallS, ↓oSub, ↓oAddI, ↓oMul, ↓oDiv, ↓oMod, ↓oShl, ↓oShr, ↓oPow, ↓oAnd, ↓oLt, ↓oLe, ↓oGt, ↓oGe, ↓oAbs, ↓oMax, ↓oMin, ↓dCallK, ↓cRepr, ↓cSum, ↓cMinL, ↓cMaxL, ↓cSorted, ↓cSortedD, ↓cList, ↓dListR, ↓fInD, ↓fMulL, ↓dSl, ↓oNo, ↓oSo, ↓dBy, b_cell_of, fs_scaled, ent, svOf, List.map_cons, List.map_nil, List.cons_append, List.nil_append, List.append_nil, List.replicate, List.length_cons, List.length_nil, List.getElem?_cons_zero, List.getElem?_cons_succ, List.getElem?_nil, List.set_cons_zero, List.set_cons_succ, Option.map_some, Option.map_none, Option.isNone_some, Option.isNone_none, forall_const, true_implies, false_implies, and_true, true_and, Bool.true_eq_false, Bool.false_eq_true, reduceCtorEq, noOwn, wipeS, hide, fuN_self, lcD, dYes, Nat.zero_add, Nat.reduceAdd, Nat.reduceLeDiff, Nat.reduceSub, atI_0, atI_1, atI_2, atI_3, atI_4, atI_5, Int.one_mul, eqv_ii, eqv_ss, eqv_num, shaped_int, shaped_num, shaped_none, shaped_ru, flat_str, flat_int, flat_none, List.all_cons, List.all_nil, Bool.and_true, decide_eq_true_eq, decide_eq_false_iff_not, Bool.not_eq_true', Bool.not_eq_false', Decidable.not_not, ↓reduceIte, Bool.false_eq_true, Int.reduceLT, eqv_strs, pick_0, pick_01, pick_10, pick_012, pick_021, pick_102, pick_120, pick_201, pick_210]
  change ∃ n_1 d_1 e, [Rv.val (num n d), Rv.val (PyData.int (0 - (bl n - bl d - w)))] = _ ∧ _
  refine ⟨n, d, _, rfl, bn.mono (by decide), bd.mono (by decide), by omega, by omega, scI_div hd bd (by omega) (by decide), shlX 64 (Bn.small (by decide) (by decide) (by decide)) (by omega) (by omega), fun ht => ?_, fun hf => ?_⟩
  · change ∃ n_1 d_1 e, [Rv.val (num n d), Rv.val (PyData.int (0 - (bl n - bl d - w + 1)))] = _ ∧ _
    refine ⟨n, d, _, rfl, bn.mono (by decide), bd.mono (by decide), by omega, by omega, scI_div hd bd (by omega) (by decide), ?_⟩
    have e : cellI n d w = ((scI n d (0 - (bl n - bl d - w + 1))).1 / (scI n d (0 - (bl n - bl d - w + 1))).2, bl n - bl d - w + 1) := if_pos ht
    rw [e] at h
    exact h
  · refine ⟨scI_div hd bd (by omega) (by decide), ?_⟩
    have e : cellI n d w = ((scI n d (0 - (bl n - bl d - w))).1 / (scI n d (0 - (bl n - bl d - w))).2, bl n - bl d - w) := if_neg hf
    rw [e] at h
    exact h
section
variable {P : Program} {w : World} {K : Fg} {mg : Str → Option Value} {base : Heap}
theorem d_cell_of (T : Tx w K mg) {cdv : Value} {A : Around} {outer : List Env} {s : Shared} {H : Hp} {E : XK} (hr : Room 1 (A.deeper (envOfC "cell_of" (defScope st_cell_of) s.heap.objs.size T.f_cell_of cdv))) (hgd : (A.deeper (envOfC "cell_of" (defScope st_cell_of) s.heap.objs.size T.f_cell_of cdv)).guards = some []) :
    PSs (cxOf CX0 P w K mg base N_cell_of "cell_of" (defScope st_cell_of) T.f_cell_of cdv A outer s H E).nox (defBody st_cell_of) (upS K b_cell_of) :=
  (ss_cons (s_set (i := 2) sc_cell_of.nd rfl (.inl rfl) (e_sub (e_sub (e_bits (e_ix (e_var 0 (pv 0)) e_int)) (e_bits (e_ix (e_var 0 (pv 0)) e_int))) (e_var 1 (pv 1))))
    (ss_cons (s_asg (e_call (ok_scaled T) (hr.mono (by decide)) hgd (by rfl) T.g_scaled T.F_scaled.kp T.b_scaled pass0 (a_cons (e_var 0 (pv 0)) (a_cons (e_sub e_int (e_var 2 (pv 2))) a_nil))) (g_tup rfl (gs_cons (g_name (pg_name (i := 3) sc_cell_of.nd rfl (.inl rfl))) (gs_cons (g_name (pg_name (i := 4) sc_cell_of.nd rfl (.inl rfl))) gs_nil))))
    (ss_cons (s_if (t_ge (e_div (e_var 3 (pv 3)) (e_var 4 (pv 4))) (e_shl e_int (e_var 1 (pv 1)))) (ss_cons (s_aug (i := 2) sc_cell_of.nd rfl (.inl rfl) e_int iop_add ok_I0)
    (ss_one (s_asg (e_call (ok_scaled T) (hr.mono (by decide)) hgd (by rfl) T.g_scaled T.F_scaled.kp T.b_scaled pass0 (a_cons (e_var 0 (pv 0)) (a_cons (e_sub e_int (e_var 2 (pv 2))) a_nil))) (g_tup rfl (gs_cons (g_name (pg_name (i := 3) sc_cell_of.nd rfl (.inl rfl))) (gs_cons (g_name (pg_name (i := 4) sc_cell_of.nd rfl (.inl rfl))) gs_nil)))))) ss_nil)
    (ss_one (s_ret (e_tup (a_cons (e_div (e_var 3 (pv 3)) (e_var 4 (pv 4))) (a_cons (e_var 2 (pv 2)) a_nil))))))))
theorem ok_cell_of (T : Tx w K mg) : Fn P w K mg base CX0 2 T.f_cell_of T.fd_cell_of ["number", "width"] (lift K 2 fs_cell_of) := fn_data T.F_cell_of sc_cell_of b_cell_of (fun _ _ _ _ _ _ hr hgd => d_cell_of T hr hgd) p_cell_of
end
--@@ position_of
def b_position_of : DS :=
  (dSeq (dAsg (dCall 2 fs_cell_of (dCons (dVar 0) (dCons (dVar 1) dNil))) (dT 2 (dTc (dN 2) (dTc (dN 3) dTn))))
  (dSeq (dAsg (dCall 2 fs_scaled (dCons (dVar 0) (dCons (dBin oSub (dC (.int 0)) (dVar 3)) dNil))) (dT 2 (dTc (dN 4) (dTc (dN 5) dTn))))
  (dRet (dCall 2 fs_lowest (dCons (dBin oSub (dVar 4) (dBin oMul (dVar 2) (dVar 5))) (dCons (dVar 5) dNil))))))
theorem cell_e {n d w : Int} (hn : 0 < n) (bn : Bn 4000 n) (hd : 0 < d) (bd : Bn 4000 d) (h1 : 1 ≤ w) (h2 : w ≤ 100) : -4100 ≤ (cellI n d w).2 ∧ (cellI n d w).2 ≤ 4000 := by
  obtain ⟨_, _, _, c1, c2⟩ := cellI_spec hn hd h1
  have e1 := bl_le bn
  have e2 := bl_le bd
  have e3 := bl_nn n
  have e4 := bl_nn d
  obtain ⟨p, ep, _⟩ := bl_pos hn
  obtain ⟨q, eq, _⟩ := bl_pos hd
  omega
theorem cell_kB {n d w : Int} (hn : 0 < n) (hd : 0 < d) (h1 : 1 ≤ w) (h2 : w ≤ 100) : 0 < (cellI n d w).1 ∧ Bn 101 (cellI n d w).1 := by
  obtain ⟨_, c1, c2, _⟩ := cellI_spec hn hd h1
  have := pow2_pos (w - 1).toNat
  exact ⟨by omega, (Bn.pow2 (n := w.toNat) (m := 101) (by omega)).le (by omega) (Int.le_of_lt c2)⟩
theorem pos_rest {n d w : Int} (hn : 0 < n) (hd : 0 < d) (h1 : 1 ≤ w) : (scI n d (0 - (cellI n d w).2)).1 - (cellI n d w).1 * (scI n d (0 - (cellI n d w).2)).2 = (scI n d (0 - (cellI n d w).2)).1 % (scI n d (0 - (cellI n d w).2)).2 := by
  obtain ⟨c, _⟩ := cellI_spec hn hd h1
  generalize ha : (scI n d (0 - (cellI n d w).2)).1 = a at c ⊢
  generalize hb : (scI n d (0 - (cellI n d w).2)).2 = b at c ⊢
  rw [c, Int.emod_def, Int.mul_comm]
theorem cell_eB {n d w : Int} {a : Nat} (hn : 0 < n) (bn : Bn a n) (hd : 0 < d) (bd : Bn a d) (h1 : 1 ≤ w) (h2 : w ≤ 100) : -(a : Int) - 100 ≤ (cellI n d w).2 ∧ (cellI n d w).2 ≤ a := by
  obtain ⟨_, _, _, c1, c2⟩ := cellI_spec hn hd h1
  have e1 := bl_le bn
  have e2 := bl_le bd
  have e3 := bl_nn n
  have e4 := bl_nn d
  obtain ⟨p, ep, _⟩ := bl_pos hn
  obtain ⟨q, eq, _⟩ := bl_pos hd
  omega
theorem pos_one {n d w : Int} (hn : 0 < n) (hd : 0 < d) (h1 : 1 ≤ w) : (posI n d w).1 = 0 ↔ posI n d w = (0, 1) := by
  refine ⟨fun h => ?_, fun h => by rw [h]⟩
  obtain ⟨a0, b0⟩ := scI_pos (f := 0 - (cellI n d w).2) hn hd
  refine Prod.ext h ?_
  unfold posI at h ⊢
  generalize (scI n d (0 - (cellI n d w).2)).1 - (cellI n d w).1 * (scI n d (0 - (cellI n d w).2)).2 = x at h ⊢
  generalize (scI n d (0 - (cellI n d w).2)).2 = y at b0 h ⊢
  have g0 := gcd_pos (a := x) b0
  have d1 : (Int.gcd x y : Int) ∣ x := Int.gcd_dvd_left x y
  have hx : x = 0 := by
    have := Int.ediv_mul_cancel d1
    have h' : x / Int.gcd x y = 0 := h
    rw [h'] at this
    omega
  subst hx
  show y / ((Int.gcd 0 y : Nat) : Int) = 1
  rw [Int.gcd_zero_left]
  have : ((y.natAbs : Nat) : Int) = y := by omega
  rw [this]
  exact Int.ediv_self (by omega)
def fs_position_of : FSp := fun rs fu post => ∃ n d w : Int, rs = [.val (num n d), .val (.int w)] ∧ 0 < n ∧ Bn 4000 n ∧ 0 < d ∧ Bn 4000 d ∧ 1 ≤ w ∧ w ≤ 100 ∧ post (.val (nm (posI n d w))) fu
theorem p_position_of (rs : List Rv) (fu : Option Nat) (post : Rr → Option Nat → Prop) (hl : rs.length = 2) (h : fs_position_of rs fu post) : b_position_of ⟨fun g => post (.val .none) g.fu, fun r g => post r g.fu, fun _ => False, fun _ => False⟩ (ent N_position_of rs fu) := by
  obtain ⟨n, d, w, rfl, hn, bn, hd, bd, h1, h2, h⟩ := h
  simp only [↓dSeq, ↓dAsg, ↓dSetL, ↓dNext, ↓dIfS, ↓dRet, ↓dRetL, ↓dDrop, ↓dNever, ↓dBrk, ↓dCnt, ↓dAug, ↓dPar, ↓dPar3, ↓dParL, ↓dApp, ↓dExt, ↓dVar, ↓dC, ↓dBin, ↓fI, ↓fI0, ↓fAdd, ↓fEq, ↓fNe, ↓fIn, ↓dTest, ↓dAndT, ↓dOrT, ↓dNotT, ↓dAndV, ↓dOrV, ↓dNotV, ↓dIf, ↓dNeg, ↓dIsN, ↓dChain, ↓dNil, ↓dCons, ↓dTup, ↓dLst, ↓dFz, ↓valsD, ↓dIx, ↓dCall, ↓dCallL, ↓hasSrc, ↓rrv, ↓dN, ↓dT, ↓dTn, ↓dTc, ↓rsv, ↓Gs.set, ↓dFor, ↓dItems, ↓dRange1, ↓dRange2, ↓dZip, ↓dRev, ↓dLc, ↓dCB, ↓cLen, ↓cAll, ↓cTuple, ↓cInt, ↓cInt1, ↓cInt2, ↓dIsi, ↓dBits, ↓dSetS, ↓dCallS, ↓oSub, ↓oAddI, ↓oMul, ↓oDiv, ↓oMod, ↓oShl, ↓oShr, ↓oPow, ↓oAnd, ↓oLt, ↓oLe, ↓oGt, ↓oGe, ↓oAbs, ↓oMax, ↓oMin, ↓dCallK, ↓cRepr, ↓cSum, ↓cMinL, ↓cMaxL, ↓cSorted, ↓cSortedD, ↓cList, ↓dListR, ↓fInD, ↓fMulL, ↓dSl, ↓oNo, ↓oSo, ↓dBy, b_position_of, fs_cell_of, fs_scaled, fs_lowest, ent, svOf, List.map_cons, List.map_nil, List.cons_append, List.nil_append, List.append_nil, List.replicate, List.length_cons, List.length_nil, List.getElem?_cons_zero, List.getElem?_cons_succ, List.getElem?_nil, List.set_cons_zero, List.set_cons_succ, Option.map_some, Option.map_none, Option.isNone_some, Option.isNone_none, forall_const, true_implies, false_implies, and_true, true_and, Bool.true_eq_false, Bool.false_eq_true, reduceCtorEq, noOwn, wipeS, hide, fuN_self, lcD, dYes, Nat.zero_add, Nat.reduceAdd, Nat.reduceLeDiff, Nat.reduceSub, atI_0, atI_1, atI_2, atI_3, atI_4, atI_5, Int.one_mul, eqv_ii, eqv_ss, eqv_num, shaped_int, shaped_num, shaped_none, shaped_ru, flat_str, flat_int, flat_none, List.all_cons, List.all_nil, Bool.and_true, decide_eq_true_eq, decide_eq_false_iff_not, Bool.not_eq_true', Bool.not_eq_false', Decidable.not_not, ↓reduceIte, Bool.false_eq_true, Int.reduceLT, eqv_strs, pick_0, pick_01, pick_10, pick_012, pick_021, pick_102, pick_120, pick_201, pick_210]
  obtain ⟨c1, c2⟩ := cell_e hn bn hd bd h1 h2
  obtain ⟨k1, k2⟩ := cell_kB hn hd h1 h2
  obtain ⟨a0, b0⟩ := scI_pos (f := 0 - (cellI n d w).2) hn hd
  have bb : Bn 9000 (scI n d (0 - (cellI n d w).2)).2 := (shlB bd).mono (by omega)
  refine ⟨n, d, w, rfl, hn, bn, hd, bd, h1, h2, n, d, _, rfl, bn.mono (by decide), bd.mono (by decide), by omega, by omega, mulX 101 9000 k2 bb (by decide), _, _, rfl, ?_, b0, bb, h⟩
  rw [pos_rest hn hd h1]
  exact Int.emod_nonneg _ (by omega)
section
variable {P : Program} {w : World} {K : Fg} {mg : Str → Option Value} {base : Heap}
theorem d_position_of (T : Tx w K mg) {cdv : Value} {A : Around} {outer : List Env} {s : Shared} {H : Hp} {E : XK} (hr : Room 2 (A.deeper (envOfC "position_of" (defScope st_position_of) s.heap.objs.size T.f_position_of cdv))) (hgd : (A.deeper (envOfC "position_of" (defScope st_position_of) s.heap.objs.size T.f_position_of cdv)).guards = some []) :
    PSs (cxOf CX0 P w K mg base N_position_of "position_of" (defScope st_position_of) T.f_position_of cdv A outer s H E).nox (defBody st_position_of) (upS K b_position_of) :=
  (ss_cons (s_asg (e_call (ok_cell_of T) (hr.mono (by decide)) hgd (by rfl) T.g_cell_of T.F_cell_of.kp T.b_cell_of pass0 (a_cons (e_var 0 (pv 0)) (a_cons (e_var 1 (pv 1)) a_nil))) (g_tup rfl (gs_cons (g_name (pg_name (i := 2) sc_position_of.nd rfl (.inl rfl))) (gs_cons (g_name (pg_name (i := 3) sc_position_of.nd rfl (.inl rfl))) gs_nil))))
    (ss_cons (s_asg (e_call (ok_scaled T) (hr.mono (by decide)) hgd (by rfl) T.g_scaled T.F_scaled.kp T.b_scaled pass0 (a_cons (e_var 0 (pv 0)) (a_cons (e_sub e_int (e_var 3 (pv 3))) a_nil))) (g_tup rfl (gs_cons (g_name (pg_name (i := 4) sc_position_of.nd rfl (.inl rfl))) (gs_cons (g_name (pg_name (i := 5) sc_position_of.nd rfl (.inl rfl))) gs_nil))))
    (ss_one (s_ret (e_call (ok_lowest T) (hr.mono (by decide)) hgd (by rfl) T.g_lowest T.F_lowest.kp T.b_lowest pass0 (a_cons (e_sub (e_var 4 (pv 4)) (e_mul (e_var 2 (pv 2)) (e_var 5 (pv 5)))) (a_cons (e_var 5 (pv 5)) a_nil)))))))
theorem ok_position_of (T : Tx w K mg) : Fn P w K mg base CX0 3 T.f_position_of T.fd_position_of ["number", "width"] (lift K 2 fs_position_of) := fn_data T.F_position_of sc_position_of b_position_of (fun _ _ _ _ _ _ hr hgd => d_position_of T hr hgd) p_position_of
end
--@@ is_rule
def b_is_rule : DS :=
  (dRet (dAndV (dIsi "str" (dVar 0)) (dBin (fIn false) (dVar 0) (dC (.tuple [(.str "down"), (.str "half_down"), (.str "half_even"), (.str "half_up"), (.str "odd"), (.str "up")])))))
abbrev rulesD : List Da := [.str "down", .str "half_down", .str "half_even", .str "half_up", .str "odd", .str "up"]
def isRul (v : Da) : Bool := match v with
  | .str r => inD (.str r) rulesD
  | _ => false
theorem isRul_s (r : Ru) : isRul (.str r.s) = true := by cases r <;> decide +kernel
theorem isRul_ru {v : Da} (h : isRul v = true) : ∃ r : Ru, v = .str r.s := by
  cases v with
  | str x =>
    simp [isRul, inD, PyData.eqv] at h
    rcases h with h | h | h | h | h | h
    · exact ⟨.dn, by rw [← h]; rfl⟩
    · exact ⟨.hd, by rw [← h]; rfl⟩
    · exact ⟨.he, by rw [← h]; rfl⟩
    · exact ⟨.hu, by rw [← h]; rfl⟩
    · exact ⟨.od, by rw [← h]; rfl⟩
    · exact ⟨.up, by rw [← h]; rfl⟩
  | _ => cases h
def fs_is_rule : FSp := fun rs fu post => ∃ v, rs = [.val v] ∧ post (.val (.bool (isRul v))) fu
theorem p_is_rule (rs : List Rv) (fu : Option Nat) (post : Rr → Option Nat → Prop) (hl : rs.length = 1) (h : fs_is_rule rs fu post) : b_is_rule ⟨fun g => post (.val .none) g.fu, fun r g => post r g.fu, fun _ => False, fun _ => False⟩ (ent N_is_rule rs fu) := by
  obtain ⟨v, rfl, h⟩ := h
  cases v with
  | str r =>
    simp only [↓dSeq, ↓dAsg, ↓dSetL, ↓dNext, ↓dIfS, ↓dRet, ↓dRetL, ↓dDrop, ↓dNever, ↓dBrk, ↓dCnt, ↓dAug, ↓dPar, ↓dPar3, ↓dParL, ↓dApp, ↓dExt, ↓dVar, ↓dC, ↓dBin, ↓fI, ↓fI0, ↓fAdd, ↓fEq, ↓fNe, ↓fIn, ↓dTest, ↓dAndT, ↓dOrT, ↓dNotT, ↓dAndV, ↓dOrV, ↓dNotV, ↓dIf, ↓dNeg, ↓dIsN, ↓dChain, ↓dNil, ↓dCons, ↓dTup, ↓dLst, ↓dFz, ↓valsD, ↓dIx, ↓dCall, ↓dCallL, ↓hasSrc, ↓rrv, ↓dN, ↓dT, ↓dTn, ↓dTc, ↓rsv, ↓Gs.set, ↓dFor, ↓dItems, ↓dRange1, ↓dRange2, ↓dZip, ↓dRev, ↓dLc, ↓dCB, ↓cLen, ↓cAll, ↓cTuple, ↓cInt, ↓cInt1, ↓cInt2, ↓dIsi, ↓dBits, ↓dSetS, ↓dCallS, ↓oSub, ↓oAddI, ↓oMul, ↓oDiv, ↓oMod, ↓oShl, ↓oShr, ↓oPow, ↓oAnd, ↓oLt, ↓oLe, ↓oGt, ↓oGe, ↓oAbs, ↓oMax, ↓oMin, ↓dCallK, ↓cRepr, ↓cSum, ↓cMinL, ↓cMaxL, ↓cSorted, ↓cSortedD, ↓cList, ↓dListR, ↓fInD, ↓fMulL, ↓dSl, ↓oNo, ↓oSo, ↓dBy, b_is_rule, ent, svOf, List.map_cons, List.map_nil, List.cons_append, List.nil_append, List.append_nil, List.replicate, List.length_cons, List.length_nil, List.getElem?_cons_zero, List.getElem?_cons_succ, List.getElem?_nil, List.set_cons_zero, List.set_cons_succ, Option.map_some, Option.map_none, Option.isNone_some, Option.isNone_none, forall_const, true_implies, false_implies, and_true, true_and, Bool.true_eq_false, Bool.false_eq_true, reduceCtorEq, noOwn, wipeS, hide, fuN_self, lcD, dYes, Nat.zero_add, Nat.reduceAdd, Nat.reduceLeDiff, Nat.reduceSub, atI_0, atI_1, atI_2, atI_3, atI_4, atI_5, Int.one_mul, eqv_ii, eqv_ss, eqv_num, shaped_int, shaped_num, shaped_none, shaped_ru, flat_str, flat_int, flat_none, List.all_cons, List.all_nil, Bool.and_true, decide_eq_true_eq, decide_eq_false_iff_not, Bool.not_eq_true', Bool.not_eq_false', Decidable.not_not, ↓reduceIte, Bool.false_eq_true, Int.reduceLT, eqv_strs, pick_0, pick_01, pick_10, pick_012, pick_021, pick_102, pick_120, pick_201, pick_210]
    refine ⟨fun _ => h, fun z => (by simp [isTy] at z)⟩
  | _ => simp only [↓dSeq, ↓dAsg, ↓dSetL, ↓dNext, ↓dIfS, ↓dRet, ↓dRetL, ↓dDrop, ↓dNever, ↓dBrk, ↓dCnt, ↓dAug, ↓dPar, ↓dPar3, ↓dParL, ↓dApp, ↓dExt, ↓dVar, ↓dC, ↓dBin, ↓fI, ↓fI0, ↓fAdd, ↓fEq, ↓fNe, ↓fIn, ↓dTest, ↓dAndT, ↓dOrT, ↓dNotT, ↓dAndV, ↓dOrV, ↓dNotV, ↓dIf, ↓dNeg, ↓dIsN, ↓dChain, ↓dNil, ↓dCons, ↓dTup, ↓dLst, ↓dFz, ↓valsD, ↓dIx, ↓dCall, ↓dCallL, ↓hasSrc, ↓rrv, ↓dN, ↓dT, ↓dTn, ↓dTc, ↓rsv, ↓Gs.set, ↓dFor, ↓dItems, ↓dRange1, ↓dRange2, ↓dZip, ↓dRev, ↓dLc, ↓dCB, ↓cLen, ↓cAll, ↓cTuple, ↓cInt, ↓cInt1, ↓cInt2, ↓dIsi, ↓dBits, ↓dSetS, ↓dCallS, ↓oSub, ↓oAddI, ↓oMul, ↓oDiv, ↓oMod, ↓oShl, ↓oShr, ↓oPow, ↓oAnd, ↓oLt, ↓oLe, ↓oGt, ↓oGe, ↓oAbs, ↓oMax, ↓oMin, ↓dCallK, ↓cRepr, ↓cSum, ↓cMinL, ↓cMaxL, ↓cSorted, ↓cSortedD, ↓cList, ↓dListR, ↓fInD, ↓fMulL, ↓dSl, ↓oNo, ↓oSo, ↓dBy, b_is_rule, ent, svOf, List.map_cons, List.map_nil, List.cons_append, List.nil_append, List.append_nil, List.replicate, List.length_cons, List.length_nil, List.getElem?_cons_zero, List.getElem?_cons_succ, List.getElem?_nil, List.set_cons_zero, List.set_cons_succ, Option.map_some, Option.map_none, Option.isNone_some, Option.isNone_none, forall_const, true_implies, false_implies, and_true, true_and, Bool.true_eq_false, Bool.false_eq_true, reduceCtorEq, noOwn, wipeS, hide, fuN_self, lcD, dYes, Nat.zero_add, Nat.reduceAdd, Nat.reduceLeDiff, Nat.reduceSub, atI_0, atI_1, atI_2, atI_3, atI_4, atI_5, Int.one_mul, eqv_ii, eqv_ss, eqv_num, shaped_int, shaped_num, shaped_none, shaped_ru, flat_str, flat_int, flat_none, List.all_cons, List.all_nil, Bool.and_true, decide_eq_true_eq, decide_eq_false_iff_not, Bool.not_eq_true', Bool.not_eq_false', Decidable.not_not, ↓reduceIte, Bool.false_eq_true, Int.reduceLT, eqv_strs, pick_0, pick_01, pick_10, pick_012, pick_021, pick_102, pick_120, pick_201, pick_210]; simpa [isTy, isRul] using h
section
variable {P : Program} {w : World} {K : Fg} {mg : Str → Option Value} {base : Heap}
theorem d_is_rule (T : Tx w K mg) {cdv : Value} {A : Around} {outer : List Env} {s : Shared} {H : Hp} {E : XK} (hr : Room 0 (A.deeper (envOfC "is_rule" (defScope st_is_rule) s.heap.objs.size T.f_is_rule cdv))) (hgd : (A.deeper (envOfC "is_rule" (defScope st_is_rule) s.heap.objs.size T.f_is_rule cdv)).guards = some []) :
    PSs (cxOf CX0 P w K mg base N_is_rule "is_rule" (defScope st_is_rule) T.f_is_rule cdv A outer s H E).nox (defBody st_is_rule) (upS K b_is_rule) :=
  (ss_one (s_ret (e_and (e_isi kit_str (by rfl) T.n_isinstance (e_var 0 (pv 0)) (c_ty (by rfl) T.n_str (by decide +kernel))) (e_one (e_in (e_var 0 (pv 0)) (e_glob (by rfl) T.c_RULES T.v_RULES T.r_RULES))))))
theorem ok_is_rule (T : Tx w K mg) : Fn P w K mg base CX0 1 T.f_is_rule T.fd_is_rule ["value"] (lift K 1 fs_is_rule) := fn_data T.F_is_rule sc_is_rule b_is_rule (fun _ _ _ _ _ _ hr hgd => d_is_rule T hr hgd) p_is_rule
end
--@@ ends_of
def b_ends_of : DS :=
  (dSeq (dIfS (dTest (dBin fEq (dIx (dCall 2 fs_position_of (dCons (dVar 0) (dCons (dVar 1) dNil))) (dC (.int 0))) (dC (.int 0))))
    (dRet (dTup (dCons (dVar 0) (dCons (dVar 0) dNil))))
    dNext)
  (dSeq (dAsg (dCall 2 fs_cell_of (dCons (dVar 0) (dCons (dVar 1) dNil))) (dT 2 (dTc (dN 2) (dTc (dN 3) dTn))))
  (dRet (dTup (dCons (dCall 2 fs_power_number (dCons (dVar 2) (dCons (dVar 3) dNil))) (dCons (dCall 2 fs_power_number (dCons (dBin fAdd (dVar 2) (dC (.int 1))) (dCons (dVar 3) dNil))) dNil))))))
def fs_ends_of : FSp := fun rs fu post => ∃ n d w : Int, rs = [.val (num n d), .val (.int w)] ∧ 0 < n ∧ Bn 4000 n ∧ 0 < d ∧ Bn 4000 d ∧ 1 ≤ w ∧ w ≤ 100 ∧ post (.val (.tuple [nm (endsI n d w).1, nm (endsI n d w).2])) fu
theorem p_ends_of (rs : List Rv) (fu : Option Nat) (post : Rr → Option Nat → Prop) (hl : rs.length = 2) (h : fs_ends_of rs fu post) : b_ends_of ⟨fun g => post (.val .none) g.fu, fun r g => post r g.fu, fun _ => False, fun _ => False⟩ (ent N_ends_of rs fu) := by
  obtain ⟨n, d, w, rfl, hn, bn, hd, bd, h1, h2, h⟩ := h
  simp only [↓dSeq, ↓dAsg, ↓dSetL, ↓dNext, ↓dIfS, ↓dRet, ↓dRetL, ↓dDrop, ↓dNever, ↓dBrk, ↓dCnt, ↓dAug, ↓dPar, ↓dPar3, ↓dParL, ↓dApp, ↓dExt, ↓dVar, ↓dC, ↓dBin, ↓fI, ↓fI0, ↓fAdd, ↓fEq, ↓fNe, ↓fIn, ↓dTest, ↓dAndT, ↓dOrT, ↓dNotT, ↓dAndV, ↓dOrV, ↓dNotV, ↓dIf, ↓dNeg, ↓dIsN, ↓dChain, ↓dNil, ↓dCons, ↓dTup, ↓dLst, ↓dFz, ↓valsD, ↓dIx, ↓dCall, ↓dCallL, ↓hasSrc, ↓rrv, ↓dN, ↓dT, ↓dTn, ↓dTc, ↓rsv, ↓Gs.set, ↓dFor, ↓dItems, ↓dRange1, ↓dRange2, ↓dZip, ↓dRev, ↓dLc, ↓dCB, ↓cLen, ↓cAll, ↓cTuple, ↓cInt, ↓cInt1, ↓cInt2, ↓dIsi, ↓dBits, ↓dSetS, ↓dCallS, ↓oSub, ↓oAddI, ↓oMul, ↓oDiv, ↓oMod, ↓oShl, ↓oShr, ↓oPow, ↓oAnd, ↓oLt, ↓oLe, ↓oGt, ↓oGe, ↓oAbs, ↓oMax, ↓oMin, ↓dCallK, ↓cRepr, ↓cSum, ↓cMinL, ↓cMaxL, ↓cSorted, ↓cSortedD, ↓cList, ↓dListR, ↓fInD, ↓fMulL, ↓dSl, ↓oNo, ↓oSo, ↓dBy, b_ends_of, fs_cell_of, fs_position_of, fs_power_number, ent, svOf, List.map_cons, List.map_nil, List.cons_append, List.nil_append, List.append_nil, List.replicate, List.length_cons, List.length_nil, List.getElem?_cons_zero, List.getElem?_cons_succ, List.getElem?_nil, List.set_cons_zero, List.set_cons_succ, Option.map_some, Option.map_none, Option.isNone_some, Option.isNone_none, forall_const, true_implies, false_implies, and_true, true_and, Bool.true_eq_false, Bool.false_eq_true, reduceCtorEq, noOwn, wipeS, hide, fuN_self, lcD, dYes, Nat.zero_add, Nat.reduceAdd, Nat.reduceLeDiff, Nat.reduceSub, atI_0, atI_1, atI_2, atI_3, atI_4, atI_5, Int.one_mul, eqv_ii, eqv_ss, eqv_num, shaped_int, shaped_num, shaped_none, shaped_ru, flat_str, flat_int, flat_none, List.all_cons, List.all_nil, Bool.and_true, decide_eq_true_eq, decide_eq_false_iff_not, Bool.not_eq_true', Bool.not_eq_false', Decidable.not_not, ↓reduceIte, Bool.false_eq_true, Int.reduceLT, eqv_strs, pick_0, pick_01, pick_10, pick_012, pick_021, pick_102, pick_120, pick_201, pick_210]
  obtain ⟨c1, c2⟩ := cell_e hn bn hd bd h1 h2
  obtain ⟨k1, k2⟩ := cell_kB hn hd h1 h2
  refine ⟨n, d, w, rfl, hn, bn, hd, bd, h1, h2, fun hz => ?_, fun hz => ?_⟩
  · have e : endsI n d w = ((n, d), (n, d)) := if_pos hz
    rw [e] at h
    exact h
  · have e : endsI n d w = (powI (cellI n d w).1 (cellI n d w).2, powI ((cellI n d w).1 + 1) (cellI n d w).2) := if_neg hz
    rw [e] at h
    exact ⟨n, d, w, rfl, hn, bn, hd, bd, h1, h2, _, _, rfl, by omega, k2.mono (by decide), by omega, by omega, _, _, rfl, by omega, ((k2.add (Bn.small (by decide) (by decide) (by decide))).mono (by decide)), by omega, by omega, h⟩
theorem pow_B {k e : Int} {a : Nat} (hk : 0 < k) (bk : Bn 102 k) (h1 : -(a : Int) - 100 ≤ e) (h2 : e ≤ a) : 0 < (powI k e).1 ∧ 0 < (powI k e).2 ∧ Int.gcd (powI k e).1 (powI k e).2 = 1 ∧ Bn (a + 300) (powI k e).1 ∧ Bn (a + 300) (powI k e).2 := by
  obtain ⟨p, q⟩ := scI_pos (f := e) hk (show (0 : Int) < 1 by decide)
  obtain ⟨h3, h4, h5, h6, h7⟩ := low_pos p q
  have b1 : Bn (a + 300) (scI k 1 e).1 := (shlB bk).mono (by omega)
  have b2 : Bn (a + 300) (scI k 1 e).2 := (shlB (Bn.small (m := 64) (i := 1) (by decide) (by decide) (by decide))).mono (by omega)
  exact ⟨h3, h4, h5, b1.le (Int.le_of_lt h3) h6, b2.le (Int.le_of_lt h4) h7⟩
/-- both ends are numbers -/
theorem ends_B {n d w : Int} {a : Nat} (hn : 0 < n) (bn : Bn a n) (hd : 0 < d) (bd : Bn a d) (hg : Int.gcd n d = 1) (h1 : 1 ≤ w) (h2 : w ≤ 100) :
    (0 < (endsI n d w).1.1 ∧ 0 < (endsI n d w).1.2 ∧ Int.gcd (endsI n d w).1.1 (endsI n d w).1.2 = 1 ∧ Bn (a + 300) (endsI n d w).1.1 ∧ Bn (a + 300) (endsI n d w).1.2) ∧
    (0 < (endsI n d w).2.1 ∧ 0 < (endsI n d w).2.2 ∧ Int.gcd (endsI n d w).2.1 (endsI n d w).2.2 = 1 ∧ Bn (a + 300) (endsI n d w).2.1 ∧ Bn (a + 300) (endsI n d w).2.2) := by
  obtain ⟨c1, c2⟩ := cell_eB hn bn hd bd h1 h2
  obtain ⟨k1, k2⟩ := cell_kB hn hd h1 h2
  unfold endsI
  split
  · exact ⟨⟨hn, hd, hg, bn.mono (by omega), bd.mono (by omega)⟩, ⟨hn, hd, hg, bn.mono (by omega), bd.mono (by omega)⟩⟩
  · exact ⟨pow_B k1 (k2.mono (by decide)) c1 c2, pow_B (by omega) (k2.add (Bn.small (by decide) (by decide) (by decide))) c1 c2⟩
section
variable {P : Program} {w : World} {K : Fg} {mg : Str → Option Value} {base : Heap}
theorem d_ends_of (T : Tx w K mg) {cdv : Value} {A : Around} {outer : List Env} {s : Shared} {H : Hp} {E : XK} (hr : Room 3 (A.deeper (envOfC "ends_of" (defScope st_ends_of) s.heap.objs.size T.f_ends_of cdv))) (hgd : (A.deeper (envOfC "ends_of" (defScope st_ends_of) s.heap.objs.size T.f_ends_of cdv)).guards = some []) :
    PSs (cxOf CX0 P w K mg base N_ends_of "ends_of" (defScope st_ends_of) T.f_ends_of cdv A outer s H E).nox (defBody st_ends_of) (upS K b_ends_of) :=
  (ss_cons (s_if (t_eq hr.units (e_ix (e_call (ok_position_of T) (hr.mono (by decide)) hgd (by rfl) T.g_position_of T.F_position_of.kp T.b_position_of pass0 (a_cons (e_var 0 (pv 0)) (a_cons (e_var 1 (pv 1)) a_nil))) e_int) e_int) (ss_one (s_ret (e_tup (a_cons (e_var 0 (pv 0)) (a_cons (e_var 0 (pv 0)) a_nil))))) ss_nil)
    (ss_cons (s_asg (e_call (ok_cell_of T) (hr.mono (by decide)) hgd (by rfl) T.g_cell_of T.F_cell_of.kp T.b_cell_of pass0 (a_cons (e_var 0 (pv 0)) (a_cons (e_var 1 (pv 1)) a_nil))) (g_tup rfl (gs_cons (g_name (pg_name (i := 2) sc_ends_of.nd rfl (.inl rfl))) (gs_cons (g_name (pg_name (i := 3) sc_ends_of.nd rfl (.inl rfl))) gs_nil))))
    (ss_one (s_ret (e_tup (a_cons (e_call (ok_power_number T) (hr.mono (by decide)) hgd (by rfl) T.g_power_number T.F_power_number.kp T.b_power_number pass0 (a_cons (e_var 2 (pv 2)) (a_cons (e_var 3 (pv 3)) a_nil))) (a_cons (e_call (ok_power_number T) (hr.mono (by decide)) hgd (by rfl) T.g_power_number T.F_power_number.kp T.b_power_number pass0 (a_cons (e_add (e_var 2 (pv 2)) e_int) (a_cons (e_var 3 (pv 3)) a_nil))) a_nil)))))))
theorem ok_ends_of (T : Tx w K mg) : Fn P w K mg base CX0 4 T.f_ends_of T.fd_ends_of ["number", "width"] (lift K 2 fs_ends_of) := fn_data T.F_ends_of sc_ends_of b_ends_of (fun _ _ _ _ _ _ hr hgd => d_ends_of T hr hgd) p_ends_of
end
--@@ goes_up
def b_goes_up : DS :=
  (dSeq (dAsg (dVar 1) (dT 2 (dTc (dN 3) (dTc (dN 4) dTn))))
  (dSeq (dIfS (dTest (dBin (fIn false) (dVar 2) (dTup (dCons (dC (.str "down")) (dCons (dC (.str "up")) dNil)))))
    (dRet (dBin fEq (dVar 2) (dC (.str "up"))))
    dNext)
  (dSeq (dIfS (dTest (dBin fEq (dVar 2) (dC (.str "odd"))))
    (dRet (dBin fEq (dBin oMod (dVar 0) (dC (.int 2))) (dC (.int 0))))
    dNext)
  (dSeq (dIfS (dTest (dBin fNe (dBin oMul (dC (.int 2)) (dVar 3)) (dVar 4)))
    (dRet (dBin oGt (dBin oMul (dC (.int 2)) (dVar 3)) (dVar 4)))
    dNext)
  (dRet (dOrV (dBin fEq (dVar 2) (dC (.str "half_up"))) (dAndV (dBin fEq (dVar 2) (dC (.str "half_even"))) (dBin fEq (dBin oMod (dVar 0) (dC (.int 2))) (dC (.int 1))))))))))
def fs_goes_up : FSp := fun rs fu post => ∃ (k n d : Int) (r : Ru), rs = [.val (.int k), .val (num n d), .val (.str r.s)] ∧ Bn 10000 n ∧ post (.val (.bool (goesUp k n d r))) fu
theorem p_goes_up (rs : List Rv) (fu : Option Nat) (post : Rr → Option Nat → Prop) (hl : rs.length = 3) (h : fs_goes_up rs fu post) : b_goes_up ⟨fun g => post (.val .none) g.fu, fun r g => post r g.fu, fun _ => False, fun _ => False⟩ (ent N_goes_up rs fu) := by
  obtain ⟨k, n, d, r, rfl, bn, h⟩ := h
  have hm : CMulX 2 n := mulX 64 10000 (Bn.small (by decide) (by decide) (by decide)) bn (by decide)
  have sh : ∀ r : Ru, SeqAt.shaped (.str r.s) = true := shaped_ru
  have s1 := sh .dn
  have s2 := sh .hd
  have s3 := sh .he
  have s4 := sh .hu
  have s5 := sh .od
  have s6 := sh .up
  simp only [Ru.s] at s1 s2 s3 s4 s5 s6
  cases r <;> simp only [Ru.s, goesUp] at h ⊢ <;> (simp (decide := true) only [↓dSeq, ↓dAsg, ↓dSetL, ↓dNext, ↓dIfS, ↓dRet, ↓dRetL, ↓dDrop, ↓dNever, ↓dBrk, ↓dCnt, ↓dAug, ↓dPar, ↓dPar3, ↓dParL, ↓dApp, ↓dExt, ↓dVar, ↓dC, ↓dBin, ↓fI, ↓fI0, ↓fAdd, ↓fEq, ↓fNe, ↓fIn, ↓dTest, ↓dAndT, ↓dOrT, ↓dNotT, ↓dAndV, ↓dOrV, ↓dNotV, ↓dIf, ↓dNeg, ↓dIsN, ↓dChain, ↓dNil, ↓dCons, ↓dTup, ↓dLst, ↓dFz, ↓valsD, ↓dIx, ↓dCall, ↓dCallL, ↓hasSrc, ↓rrv, ↓dN, ↓dT, ↓dTn, ↓dTc, ↓rsv, ↓Gs.set, ↓dFor, ↓dItems, ↓dRange1, ↓dRange2, ↓dZip, ↓dRev, ↓dLc, ↓dCB, ↓cLen, ↓cAll, ↓cTuple, ↓cInt, ↓cInt1, ↓cInt2, ↓dIsi, ↓dBits, ↓dSetS, ↓dCallS, ↓oSub, ↓oAddI, ↓oMul, ↓oDiv, ↓oMod, ↓oShl, ↓oShr, ↓oPow, ↓oAnd, ↓oLt, ↓oLe, ↓oGt, ↓oGe, ↓oAbs, ↓oMax, ↓oMin, ↓dCallK, ↓cRepr, ↓cSum, ↓cMinL, ↓cMaxL, ↓cSorted, ↓cSortedD, ↓cList, ↓dListR, ↓fInD, ↓fMulL, ↓dSl, ↓oNo, ↓oSo, ↓dBy, b_goes_up, s1, s2, s3, s4, s5, s6, inD, List.any_cons, List.any_nil, Bool.or_false, Bool.or_true, Bool.false_or, decide_true, decide_false, ent, svOf, List.map_cons, List.map_nil, List.cons_append, List.nil_append, List.append_nil, List.replicate, List.length_cons, List.length_nil, List.getElem?_cons_zero, List.getElem?_cons_succ, List.getElem?_nil, List.set_cons_zero, List.set_cons_succ, Option.map_some, Option.map_none, Option.isNone_some, Option.isNone_none, forall_const, true_implies, false_implies, and_true, true_and, Bool.true_eq_false, Bool.false_eq_true, reduceCtorEq, noOwn, wipeS, hide, fuN_self, lcD, dYes, Nat.zero_add, Nat.reduceAdd, Nat.reduceLeDiff, Nat.reduceSub, atI_0, atI_1, atI_2, atI_3, atI_4, atI_5, Int.one_mul, eqv_ii, eqv_ss, eqv_num, shaped_int, shaped_num, shaped_none, shaped_ru, flat_str, flat_int, flat_none, List.all_cons, List.all_nil, Bool.and_true, decide_eq_true_eq, decide_eq_false_iff_not, Bool.not_eq_true', Bool.not_eq_false', Decidable.not_not, ↓reduceIte, Bool.false_eq_true, Int.reduceLT, eqv_strs, pick_0, pick_01, pick_10, pick_012, pick_021, pick_102, pick_120, pick_201, pick_210])
  · exact h
  · refine ⟨hm, fun _ => ⟨hm, h⟩, fun z => ?_⟩
    rw [decide_eq_false (by omega)] at h
    exact h
  · refine ⟨hm, fun z => ⟨hm, ?_⟩, fun z => ?_⟩
    · rw [if_neg z] at h; exact h
    · rw [if_pos z] at h; exact h
  · refine ⟨hm, fun z => ⟨hm, ?_⟩, fun z => ?_⟩
    · rw [show decide (d ≤ 2 * n) = decide (d < 2 * n) by rw [decide_eq_decide]; omega] at h
      exact h
    · rw [decide_eq_true (by omega)] at h
      exact h
  · exact h
  · exact h
section
variable {P : Program} {w : World} {K : Fg} {mg : Str → Option Value} {base : Heap}
theorem d_goes_up (T : Tx w K mg) {cdv : Value} {A : Around} {outer : List Env} {s : Shared} {H : Hp} {E : XK} (hr : Room 0 (A.deeper (envOfC "goes_up" (defScope st_goes_up) s.heap.objs.size T.f_goes_up cdv))) (hgd : (A.deeper (envOfC "goes_up" (defScope st_goes_up) s.heap.objs.size T.f_goes_up cdv)).guards = some []) :
    PSs (cxOf CX0 P w K mg base N_goes_up "goes_up" (defScope st_goes_up) T.f_goes_up cdv A outer s H E).nox (defBody st_goes_up) (upS K b_goes_up) :=
  (ss_cons (s_asg (e_var 1 (pv 1)) (g_tup rfl (gs_cons (g_name (pg_name (i := 3) sc_goes_up.nd rfl (.inl rfl))) (gs_cons (g_name (pg_name (i := 4) sc_goes_up.nd rfl (.inl rfl))) gs_nil))))
    (ss_cons (s_if (t_in (e_var 2 (pv 2)) (e_tup (a_cons (e_glob (by rfl) T.c_DOWN T.v_DOWN T.r_DOWN) (a_cons (e_glob (by rfl) T.c_UP T.v_UP T.r_UP) a_nil)))) (ss_one (s_ret (e_eq hr.units (e_var 2 (pv 2)) (e_glob (by rfl) T.c_UP T.v_UP T.r_UP)))) ss_nil)
    (ss_cons (s_if (t_eq hr.units (e_var 2 (pv 2)) (e_glob (by rfl) T.c_ODD T.v_ODD T.r_ODD)) (ss_one (s_ret (e_eq hr.units (e_mod (e_var 0 (pv 0)) e_int) e_int))) ss_nil)
    (ss_cons (s_if (t_ne hr.units (e_mul e_int (e_var 3 (pv 3))) (e_var 4 (pv 4))) (ss_one (s_ret (e_gt (e_mul e_int (e_var 3 (pv 3))) (e_var 4 (pv 4))))) ss_nil)
    (ss_one (s_ret (e_or (e_eq hr.units (e_var 2 (pv 2)) (e_glob (by rfl) T.c_HALF_UP T.v_HALF_UP T.r_HALF_UP)) (e_one (e_and (e_eq hr.units (e_var 2 (pv 2)) (e_glob (by rfl) T.c_HALF_EVEN T.v_HALF_EVEN T.r_HALF_EVEN)) (e_one (e_eq hr.units (e_mod (e_var 0 (pv 0)) e_int) e_int)))))))))))
theorem ok_goes_up (T : Tx w K mg) : Fn P w K mg base CX0 1 T.f_goes_up T.fd_goes_up ["k", "place", "rule"] (lift K 3 fs_goes_up) := fn_data T.F_goes_up sc_goes_up b_goes_up (fun _ _ _ _ _ _ hr hgd => d_goes_up T hr hgd) p_goes_up
end
--@@ round_once
def b_round_once : DS :=
  (dSeq (dAsg (dCall 2 fs_ends_of (dCons (dVar 0) (dCons (dVar 1) dNil))) (dT 2 (dTc (dN 3) (dTc (dN 4) dTn))))
  (dSeq (dAsg (dIx (dCall 2 fs_cell_of (dCons (dVar 0) (dCons (dVar 1) dNil))) (dC (.int 0))) (dN 5))
  (dRet (dIf (dTest (dCall 3 fs_goes_up (dCons (dVar 5) (dCons (dCall 2 fs_position_of (dCons (dVar 0) (dCons (dVar 1) dNil))) (dCons (dVar 2) dNil))))) (dVar 4) (dVar 3)))))
def fs_round_once : FSp := fun rs fu post => ∃ (n d w : Int) (r : Ru), rs = [.val (num n d), .val (.int w), .val (.str r.s)] ∧ 0 < n ∧ Bn 4000 n ∧ 0 < d ∧ Bn 4000 d ∧ 1 ≤ w ∧ w ≤ 100 ∧ post (.val (nm (roundI n d w r))) fu
theorem low_le {n d : Int} (hn : 0 ≤ n) (hd : 0 < d) : 0 ≤ (low n d).1 ∧ (low n d).1 ≤ n := ⟨Int.ediv_nonneg hn (Int.le_of_lt (gcd_pos hd)), Int.ediv_le_self _ hn⟩
theorem pos_B {n d w : Int} (hn : 0 < n) (bn : Bn 4000 n) (hd : 0 < d) (bd : Bn 4000 d) (h1 : 1 ≤ w) (h2 : w ≤ 100) : 0 ≤ (posI n d w).1 ∧ Bn 9000 (posI n d w).1 := by
  obtain ⟨c1, c2⟩ := cell_e hn bn hd bd h1 h2
  obtain ⟨a0, b0⟩ := scI_pos (f := 0 - (cellI n d w).2) hn hd
  have bb : Bn 9000 (scI n d (0 - (cellI n d w).2)).2 := (shlB bd).mono (by omega)
  unfold posI
  rw [pos_rest hn hd h1]
  have r0 := Int.emod_nonneg (scI n d (0 - (cellI n d w).2)).1 (show (scI n d (0 - (cellI n d w).2)).2 ≠ 0 by omega)
  obtain ⟨l1, l2⟩ := low_le r0 b0
  exact ⟨l1, (Bn.modR bb b0).le l1 l2⟩
theorem p_round_once (rs : List Rv) (fu : Option Nat) (post : Rr → Option Nat → Prop) (hl : rs.length = 3) (h : fs_round_once rs fu post) : b_round_once ⟨fun g => post (.val .none) g.fu, fun r g => post r g.fu, fun _ => False, fun _ => False⟩ (ent N_round_once rs fu) := by
  obtain ⟨n, d, w, r, rfl, hn, bn, hd, bd, h1, h2, h⟩ := h
  simp only [↓dSeq, ↓dAsg, ↓dSetL, ↓dNext, ↓dIfS, ↓dRet, ↓dRetL, ↓dDrop, ↓dNever, ↓dBrk, ↓dCnt, ↓dAug, ↓dPar, ↓dPar3, ↓dParL, ↓dApp, ↓dExt, ↓dVar, ↓dC, ↓dBin, ↓fI, ↓fI0, ↓fAdd, ↓fEq, ↓fNe, ↓fIn, ↓dTest, ↓dAndT, ↓dOrT, ↓dNotT, ↓dAndV, ↓dOrV, ↓dNotV, ↓dIf, ↓dNeg, ↓dIsN, ↓dChain, ↓dNil, ↓dCons, ↓dTup, ↓dLst, ↓dFz, ↓valsD, ↓dIx, ↓dCall, ↓dCallL, ↓hasSrc, ↓rrv, ↓dN, ↓dT, ↓dTn, ↓dTc, ↓rsv, ↓Gs.set, ↓dFor, ↓dItems, ↓dRange1, ↓dRange2, ↓dZip, ↓dRev, ↓dLc, ↓dCB, ↓cLen, ↓cAll, ↓cTuple, ↓cInt, ↓cInt1, ↓cInt2, ↓dIsi, ↓dBits, ↓dSetS, ↓dCallS, ↓oSub, ↓oAddI, ↓oMul, ↓oDiv, ↓oMod, ↓oShl, ↓oShr, ↓oPow, ↓oAnd, ↓oLt, ↓oLe, ↓oGt, ↓oGe, ↓oAbs, ↓oMax, ↓oMin, ↓dCallK, ↓cRepr, ↓cSum, ↓cMinL, ↓cMaxL, ↓cSorted, ↓cSortedD, ↓cList, ↓dListR, ↓fInD, ↓fMulL, ↓dSl, ↓oNo, ↓oSo, ↓dBy, b_round_once, fs_ends_of, fs_cell_of, fs_position_of, fs_goes_up, ent, svOf, List.map_cons, List.map_nil, List.cons_append, List.nil_append, List.append_nil, List.replicate, List.length_cons, List.length_nil, List.getElem?_cons_zero, List.getElem?_cons_succ, List.getElem?_nil, List.set_cons_zero, List.set_cons_succ, Option.map_some, Option.map_none, Option.isNone_some, Option.isNone_none, forall_const, true_implies, false_implies, and_true, true_and, Bool.true_eq_false, Bool.false_eq_true, reduceCtorEq, noOwn, wipeS, hide, fuN_self, lcD, dYes, Nat.zero_add, Nat.reduceAdd, Nat.reduceLeDiff, Nat.reduceSub, atI_0, atI_1, atI_2, atI_3, atI_4, atI_5, Int.one_mul, eqv_ii, eqv_ss, eqv_num, shaped_int, shaped_num, shaped_none, shaped_ru, flat_str, flat_int, flat_none, List.all_cons, List.all_nil, Bool.and_true, decide_eq_true_eq, decide_eq_false_iff_not, Bool.not_eq_true', Bool.not_eq_false', Decidable.not_not, ↓reduceIte, Bool.false_eq_true, Int.reduceLT, eqv_strs, pick_0, pick_01, pick_10, pick_012, pick_021, pick_102, pick_120, pick_201, pick_210]
  refine ⟨n, d, w, rfl, hn, bn, hd, bd, h1, h2, n, d, w, rfl, hn, bn, hd, bd, h1, h2, n, d, w, rfl, hn, bn, hd, bd, h1, h2, _, _, _, r, rfl, (pos_B hn bn hd bd h1 h2).2.mono (by decide), fun hu => ?_, fun hu => ?_⟩
  · have e : roundI n d w r = (endsI n d w).2 := if_pos hu
    rw [e] at h
    exact h
  · have e : roundI n d w r = (endsI n d w).1 := if_neg (by rw [hu]; decide)
    rw [e] at h
    exact h
theorem round_B {n d w : Int} {a : Nat} (r : Ru) (hn : 0 < n) (bn : Bn a n) (hd : 0 < d) (bd : Bn a d) (hg : Int.gcd n d = 1) (h1 : 1 ≤ w) (h2 : w ≤ 100) :
    0 < (roundI n d w r).1 ∧ 0 < (roundI n d w r).2 ∧ Int.gcd (roundI n d w r).1 (roundI n d w r).2 = 1 ∧ Bn (a + 300) (roundI n d w r).1 ∧ Bn (a + 300) (roundI n d w r).2 := by
  obtain ⟨x, y⟩ := ends_B hn bn hd bd hg h1 h2
  unfold roundI
  split
  · exact y
  · exact x
section
variable {P : Program} {w : World} {K : Fg} {mg : Str → Option Value} {base : Heap}
theorem d_round_once (T : Tx w K mg) {cdv : Value} {A : Around} {outer : List Env} {s : Shared} {H : Hp} {E : XK} (hr : Room 4 (A.deeper (envOfC "round_once" (defScope st_round_once) s.heap.objs.size T.f_round_once cdv))) (hgd : (A.deeper (envOfC "round_once" (defScope st_round_once) s.heap.objs.size T.f_round_once cdv)).guards = some []) :
    PSs (cxOf CX0 P w K mg base N_round_once "round_once" (defScope st_round_once) T.f_round_once cdv A outer s H E).nox (defBody st_round_once) (upS K b_round_once) :=
  (ss_cons (s_asg (e_call (ok_ends_of T) (hr.mono (by decide)) hgd (by rfl) T.g_ends_of T.F_ends_of.kp T.b_ends_of pass0 (a_cons (e_var 0 (pv 0)) (a_cons (e_var 1 (pv 1)) a_nil))) (g_tup rfl (gs_cons (g_name (pg_name (i := 3) sc_round_once.nd rfl (.inl rfl))) (gs_cons (g_name (pg_name (i := 4) sc_round_once.nd rfl (.inl rfl))) gs_nil))))
    (ss_cons (s_set (i := 5) sc_round_once.nd rfl (.inl rfl) (e_ix (e_call (ok_cell_of T) (hr.mono (by decide)) hgd (by rfl) T.g_cell_of T.F_cell_of.kp T.b_cell_of pass0 (a_cons (e_var 0 (pv 0)) (a_cons (e_var 1 (pv 1)) a_nil))) e_int))
    (ss_one (s_ret (e_if (t_val (e_call (ok_goes_up T) (hr.mono (by decide)) hgd (by rfl) T.g_goes_up T.F_goes_up.kp T.b_goes_up pass0 (a_cons (e_var 5 (pv 5)) (a_cons (e_call (ok_position_of T) (hr.mono (by decide)) hgd (by rfl) T.g_position_of T.F_position_of.kp T.b_position_of pass0 (a_cons (e_var 0 (pv 0)) (a_cons (e_var 1 (pv 1)) a_nil))) (a_cons (e_var 2 (pv 2)) a_nil))))) (e_var 4 (pv 4)) (e_var 3 (pv 3)))))))
theorem ok_round_once (T : Tx w K mg) : Fn P w K mg base CX0 5 T.f_round_once T.fd_round_once ["number", "width", "rule"] (lift K 3 fs_round_once) := fn_data T.F_round_once sc_round_once b_round_once (fun _ _ _ _ _ _ hr hgd => d_round_once T hr hgd) p_round_once
end
--@@ neighbours
def b_neighbours : DS :=
  (dSeq (dDrop (dCall 1 fs_check_number (dCons (dVar 0) dNil)))
  (dSeq (dDrop (dCall 1 fs_check_width (dCons (dVar 1) dNil)))
  (dRet (dCall 2 fs_ends_of (dCons (dVar 0) (dCons (dVar 1) dNil))))))
def fs_neighbours : FSp := fun rs fu post => ∃ n d w : Int, rs = [.val (num n d), .val (.int w)] ∧ isNum (num n d) = true ∧ 0 < n ∧ Bn 4000 n ∧ 0 < d ∧ Bn 4000 d ∧ 1 ≤ w ∧ w ≤ 100 ∧ post (.val (.tuple [nm (endsI n d w).1, nm (endsI n d w).2])) fu
theorem p_neighbours (rs : List Rv) (fu : Option Nat) (post : Rr → Option Nat → Prop) (hl : rs.length = 2) (h : fs_neighbours rs fu post) : b_neighbours ⟨fun g => post (.val .none) g.fu, fun r g => post r g.fu, fun _ => False, fun _ => False⟩ (ent N_neighbours rs fu) := by
  obtain ⟨n, d, w, rfl, hi, hn, bn, hd, bd, h1, h2, h⟩ := h
  simp only [↓dSeq, ↓dAsg, ↓dSetL, ↓dNext, ↓dIfS, ↓dRet, ↓dRetL, ↓dDrop, ↓dNever, ↓dBrk, ↓dCnt, ↓dAug, ↓dPar, ↓dPar3, ↓dParL, ↓dApp, ↓dExt, ↓dVar, ↓dC, ↓dBin, ↓fI, ↓fI0, ↓fAdd, ↓fEq, ↓fNe, ↓fIn, ↓dTest, ↓dAndT, ↓dOrT, ↓dNotT, ↓dAndV, ↓dOrV, ↓dNotV, ↓dIf, ↓dNeg, ↓dIsN, ↓dChain, ↓dNil, ↓dCons, ↓dTup, ↓dLst, ↓dFz, ↓valsD, ↓dIx, ↓dCall, ↓dCallL, ↓hasSrc, ↓rrv, ↓dN, ↓dT, ↓dTn, ↓dTc, ↓rsv, ↓Gs.set, ↓dFor, ↓dItems, ↓dRange1, ↓dRange2, ↓dZip, ↓dRev, ↓dLc, ↓dCB, ↓cLen, ↓cAll, ↓cTuple, ↓cInt, ↓cInt1, ↓cInt2, ↓dIsi, ↓dBits, ↓dSetS, ↓dCallS, ↓oSub, ↓oAddI, ↓oMul, ↓oDiv, ↓oMod, ↓oShl, ↓oShr, ↓oPow, ↓oAnd, ↓oLt, ↓oLe, ↓oGt, ↓oGe, ↓oAbs, ↓oMax, ↓oMin, ↓dCallK, ↓cRepr, ↓cSum, ↓cMinL, ↓cMaxL, ↓cSorted, ↓cSortedD, ↓cList, ↓dListR, ↓fInD, ↓fMulL, ↓dSl, ↓oNo, ↓oSo, ↓dBy, b_neighbours, fs_check_number, fs_check_width, fs_ends_of, ent, svOf, List.map_cons, List.map_nil, List.cons_append, List.nil_append, List.append_nil, List.replicate, List.length_cons, List.length_nil, List.getElem?_cons_zero, List.getElem?_cons_succ, List.getElem?_nil, List.set_cons_zero, List.set_cons_succ, Option.map_some, Option.map_none, Option.isNone_some, Option.isNone_none, forall_const, true_implies, false_implies, and_true, true_and, Bool.true_eq_false, Bool.false_eq_true, reduceCtorEq, noOwn, wipeS, hide, fuN_self, lcD, dYes, Nat.zero_add, Nat.reduceAdd, Nat.reduceLeDiff, Nat.reduceSub, atI_0, atI_1, atI_2, atI_3, atI_4, atI_5, Int.one_mul, eqv_ii, eqv_ss, eqv_num, shaped_int, shaped_num, shaped_none, shaped_ru, flat_str, flat_int, flat_none, List.all_cons, List.all_nil, Bool.and_true, decide_eq_true_eq, decide_eq_false_iff_not, Bool.not_eq_true', Bool.not_eq_false', Decidable.not_not, ↓reduceIte, Bool.false_eq_true, Int.reduceLT, eqv_strs, pick_0, pick_01, pick_10, pick_012, pick_021, pick_102, pick_120, pick_201, pick_210]
  exact ⟨_, rfl, hi, _, rfl, isWid_int h1 h2, n, d, w, rfl, hn, bn, hd, bd, h1, h2, h⟩
section
variable {P : Program} {w : World} {K : Fg} {mg : Str → Option Value} {base : Heap}
theorem d_neighbours (T : Tx w K mg) {cdv : Value} {A : Around} {outer : List Env} {s : Shared} {H : Hp} {E : XK} (hr : Room 4 (A.deeper (envOfC "neighbours" (defScope st_neighbours) s.heap.objs.size T.f_neighbours cdv))) (hgd : (A.deeper (envOfC "neighbours" (defScope st_neighbours) s.heap.objs.size T.f_neighbours cdv)).guards = some []) :
    PSs (cxOf CX0 P w K mg base N_neighbours "neighbours" (defScope st_neighbours) T.f_neighbours cdv A outer s H E).nox (defBody st_neighbours) (upS K b_neighbours) :=
  (ss_cons (s_expr (e_call (ok_check_number T) (hr.mono (by decide)) hgd (by rfl) T.g_check_number T.F_check_number.kp T.b_check_number pass0 (a_cons (e_var 0 (pv 0)) a_nil)))
    (ss_cons (s_expr (e_call (ok_check_width T) (hr.mono (by decide)) hgd (by rfl) T.g_check_width T.F_check_width.kp T.b_check_width pass0 (a_cons (e_var 1 (pv 1)) a_nil)))
    (ss_one (s_ret (e_call (ok_ends_of T) (hr.mono (by decide)) hgd (by rfl) T.g_ends_of T.F_ends_of.kp T.b_ends_of pass0 (a_cons (e_var 0 (pv 0)) (a_cons (e_var 1 (pv 1)) a_nil)))))))
theorem ok_neighbours (T : Tx w K mg) : Fn P w K mg base CX0 5 T.f_neighbours T.fd_neighbours ["number", "width"] (lift K 2 fs_neighbours) := fn_data T.F_neighbours sc_neighbours b_neighbours (fun _ _ _ _ _ _ hr hgd => d_neighbours T hr hgd) p_neighbours
end
--@@ is_step
def b_is_step : DS :=
  (dRet (dAndV (dIsi "tuple" (dVar 0)) (dAndV (dBin fEq (dCB cLen (dCons (dVar 0) dNil)) (dC (.int 2))) (dAndV (dCall 1 fs_is_width (dCons (dIx (dVar 0) (dC (.int 0))) dNil)) (dCall 1 fs_is_rule (dCons (dIx (dVar 0) (dC (.int 1))) dNil))))))
def isStp : Da → Bool
  | .tuple [x, y] => isWid x && isRul y
  | _ => false
theorem isStp_ne {xs : List Da} (h : xs.length ≠ 2) : isStp (.tuple xs) = false := by
  match xs with
  | [] => rfl
  | [_] => rfl
  | [_, _] => exact absurd rfl h
  | _ :: _ :: _ :: _ => rfl
theorem isStp_st {s : Int × Ru} (h : 1 ≤ s.1 ∧ s.1 ≤ 100) : isStp (stD s) = true := by
  show (isWid (.int s.1) && isRul (.str s.2.s)) = true
  rw [isWid_int h.1 h.2, isRul_s]
  rfl
def fs_is_step : FSp := fun rs fu post => ∃ v, rs = [.val v] ∧ post (.val (.bool (isStp v))) fu
theorem p_is_step (rs : List Rv) (fu : Option Nat) (post : Rr → Option Nat → Prop) (hl : rs.length = 1) (h : fs_is_step rs fu post) : b_is_step ⟨fun g => post (.val .none) g.fu, fun r g => post r g.fu, fun _ => False, fun _ => False⟩ (ent N_is_step rs fu) := by
  obtain ⟨v, rfl, h⟩ := h
  cases v with
  | tuple xs =>
    simp only [↓dSeq, ↓dAsg, ↓dSetL, ↓dNext, ↓dIfS, ↓dRet, ↓dRetL, ↓dDrop, ↓dNever, ↓dBrk, ↓dCnt, ↓dAug, ↓dPar, ↓dPar3, ↓dParL, ↓dApp, ↓dExt, ↓dVar, ↓dC, ↓dBin, ↓fI, ↓fI0, ↓fAdd, ↓fEq, ↓fNe, ↓fIn, ↓dTest, ↓dAndT, ↓dOrT, ↓dNotT, ↓dAndV, ↓dOrV, ↓dNotV, ↓dIf, ↓dNeg, ↓dIsN, ↓dChain, ↓dNil, ↓dCons, ↓dTup, ↓dLst, ↓dFz, ↓valsD, ↓dIx, ↓dCall, ↓dCallL, ↓hasSrc, ↓rrv, ↓dN, ↓dT, ↓dTn, ↓dTc, ↓rsv, ↓Gs.set, ↓dFor, ↓dItems, ↓dRange1, ↓dRange2, ↓dZip, ↓dRev, ↓dLc, ↓dCB, ↓cLen, ↓cAll, ↓cTuple, ↓cInt, ↓cInt1, ↓cInt2, ↓dIsi, ↓dBits, ↓dSetS, ↓dCallS, ↓oSub, ↓oAddI, ↓oMul, ↓oDiv, ↓oMod, ↓oShl, ↓oShr, ↓oPow, ↓oAnd, ↓oLt, ↓oLe, ↓oGt, ↓oGe, ↓oAbs, ↓oMax, ↓oMin, ↓dCallK, ↓cRepr, ↓cSum, ↓cMinL, ↓cMaxL, ↓cSorted, ↓cSortedD, ↓cList, ↓dListR, ↓fInD, ↓fMulL, ↓dSl, ↓oNo, ↓oSo, ↓dBy, b_is_step, ent, svOf, List.map_cons, List.map_nil, List.cons_append, List.nil_append, List.append_nil, List.replicate, List.length_cons, List.length_nil, List.getElem?_cons_zero, List.getElem?_cons_succ, List.getElem?_nil, List.set_cons_zero, List.set_cons_succ, Option.map_some, Option.map_none, Option.isNone_some, Option.isNone_none, forall_const, true_implies, false_implies, and_true, true_and, Bool.true_eq_false, Bool.false_eq_true, reduceCtorEq, noOwn, wipeS, hide, fuN_self, lcD, dYes, Nat.zero_add, Nat.reduceAdd, Nat.reduceLeDiff, Nat.reduceSub, atI_0, atI_1, atI_2, atI_3, atI_4, atI_5, Int.one_mul, eqv_ii, eqv_ss, eqv_num, shaped_int, shaped_num, shaped_none, shaped_ru, flat_str, flat_int, flat_none, List.all_cons, List.all_nil, Bool.and_true, decide_eq_true_eq, decide_eq_false_iff_not, Bool.not_eq_true', Bool.not_eq_false', Decidable.not_not, ↓reduceIte, Bool.false_eq_true, Int.reduceLT, eqv_strs, pick_0, pick_01, pick_10, pick_012, pick_021, pick_102, pick_120, pick_201, pick_210]
    refine ⟨fun _ => ⟨fun z => ?_, fun z => ?_⟩, fun z => (by simp [isTy] at z)⟩
    · have e : xs.length = 2 := by omega
      match xs, e with
      | [x, y], _ =>
        simp only [↓dSeq, ↓dAsg, ↓dSetL, ↓dNext, ↓dIfS, ↓dRet, ↓dRetL, ↓dDrop, ↓dNever, ↓dBrk, ↓dCnt, ↓dAug, ↓dPar, ↓dPar3, ↓dParL, ↓dApp, ↓dExt, ↓dVar, ↓dC, ↓dBin, ↓fI, ↓fI0, ↓fAdd, ↓fEq, ↓fNe, ↓fIn, ↓dTest, ↓dAndT, ↓dOrT, ↓dNotT, ↓dAndV, ↓dOrV, ↓dNotV, ↓dIf, ↓dNeg, ↓dIsN, ↓dChain, ↓dNil, ↓dCons, ↓dTup, ↓dLst, ↓dFz, ↓valsD, ↓dIx, ↓dCall, ↓dCallL, ↓hasSrc, ↓rrv, ↓dN, ↓dT, ↓dTn, ↓dTc, ↓rsv, ↓Gs.set, ↓dFor, ↓dItems, ↓dRange1, ↓dRange2, ↓dZip, ↓dRev, ↓dLc, ↓dCB, ↓cLen, ↓cAll, ↓cTuple, ↓cInt, ↓cInt1, ↓cInt2, ↓dIsi, ↓dBits, ↓dSetS, ↓dCallS, ↓oSub, ↓oAddI, ↓oMul, ↓oDiv, ↓oMod, ↓oShl, ↓oShr, ↓oPow, ↓oAnd, ↓oLt, ↓oLe, ↓oGt, ↓oGe, ↓oAbs, ↓oMax, ↓oMin, ↓dCallK, ↓cRepr, ↓cSum, ↓cMinL, ↓cMaxL, ↓cSorted, ↓cSortedD, ↓cList, ↓dListR, ↓fInD, ↓fMulL, ↓dSl, ↓oNo, ↓oSo, ↓dBy, fs_is_width, fs_is_rule, ent, svOf, List.map_cons, List.map_nil, List.cons_append, List.nil_append, List.append_nil, List.replicate, List.length_cons, List.length_nil, List.getElem?_cons_zero, List.getElem?_cons_succ, List.getElem?_nil, List.set_cons_zero, List.set_cons_succ, Option.map_some, Option.map_none, Option.isNone_some, Option.isNone_none, forall_const, true_implies, false_implies, and_true, true_and, Bool.true_eq_false, Bool.false_eq_true, reduceCtorEq, noOwn, wipeS, hide, fuN_self, lcD, dYes, Nat.zero_add, Nat.reduceAdd, Nat.reduceLeDiff, Nat.reduceSub, atI_0, atI_1, atI_2, atI_3, atI_4, atI_5, Int.one_mul, eqv_ii, eqv_ss, eqv_num, shaped_int, shaped_num, shaped_none, shaped_ru, flat_str, flat_int, flat_none, List.all_cons, List.all_nil, Bool.and_true, decide_eq_true_eq, decide_eq_false_iff_not, Bool.not_eq_true', Bool.not_eq_false', Decidable.not_not, ↓reduceIte, Bool.false_eq_true, Int.reduceLT, eqv_strs, pick_0, pick_01, pick_10, pick_012, pick_021, pick_102, pick_120, pick_201, pick_210]
        refine ⟨x, rfl, fun ht => ⟨y, rfl, ?_⟩, fun hf => ?_⟩
        · simp only [isStp, ht, Bool.true_and] at h
          exact h
        · simp only [isStp, hf, Bool.false_and] at h
          exact h
    · have e : xs.length ≠ 2 := by omega
      rw [isStp_ne e] at h
      exact h
  | _ => simp only [↓dSeq, ↓dAsg, ↓dSetL, ↓dNext, ↓dIfS, ↓dRet, ↓dRetL, ↓dDrop, ↓dNever, ↓dBrk, ↓dCnt, ↓dAug, ↓dPar, ↓dPar3, ↓dParL, ↓dApp, ↓dExt, ↓dVar, ↓dC, ↓dBin, ↓fI, ↓fI0, ↓fAdd, ↓fEq, ↓fNe, ↓fIn, ↓dTest, ↓dAndT, ↓dOrT, ↓dNotT, ↓dAndV, ↓dOrV, ↓dNotV, ↓dIf, ↓dNeg, ↓dIsN, ↓dChain, ↓dNil, ↓dCons, ↓dTup, ↓dLst, ↓dFz, ↓valsD, ↓dIx, ↓dCall, ↓dCallL, ↓hasSrc, ↓rrv, ↓dN, ↓dT, ↓dTn, ↓dTc, ↓rsv, ↓Gs.set, ↓dFor, ↓dItems, ↓dRange1, ↓dRange2, ↓dZip, ↓dRev, ↓dLc, ↓dCB, ↓cLen, ↓cAll, ↓cTuple, ↓cInt, ↓cInt1, ↓cInt2, ↓dIsi, ↓dBits, ↓dSetS, ↓dCallS, ↓oSub, ↓oAddI, ↓oMul, ↓oDiv, ↓oMod, ↓oShl, ↓oShr, ↓oPow, ↓oAnd, ↓oLt, ↓oLe, ↓oGt, ↓oGe, ↓oAbs, ↓oMax, ↓oMin, ↓dCallK, ↓cRepr, ↓cSum, ↓cMinL, ↓cMaxL, ↓cSorted, ↓cSortedD, ↓cList, ↓dListR, ↓fInD, ↓fMulL, ↓dSl, ↓oNo, ↓oSo, ↓dBy, b_is_step, ent, svOf, List.map_cons, List.map_nil, List.cons_append, List.nil_append, List.append_nil, List.replicate, List.length_cons, List.length_nil, List.getElem?_cons_zero, List.getElem?_cons_succ, List.getElem?_nil, List.set_cons_zero, List.set_cons_succ, Option.map_some, Option.map_none, Option.isNone_some, Option.isNone_none, forall_const, true_implies, false_implies, and_true, true_and, Bool.true_eq_false, Bool.false_eq_true, reduceCtorEq, noOwn, wipeS, hide, fuN_self, lcD, dYes, Nat.zero_add, Nat.reduceAdd, Nat.reduceLeDiff, Nat.reduceSub, atI_0, atI_1, atI_2, atI_3, atI_4, atI_5, Int.one_mul, eqv_ii, eqv_ss, eqv_num, shaped_int, shaped_num, shaped_none, shaped_ru, flat_str, flat_int, flat_none, List.all_cons, List.all_nil, Bool.and_true, decide_eq_true_eq, decide_eq_false_iff_not, Bool.not_eq_true', Bool.not_eq_false', Decidable.not_not, ↓reduceIte, Bool.false_eq_true, Int.reduceLT, eqv_strs, pick_0, pick_01, pick_10, pick_012, pick_021, pick_102, pick_120, pick_201, pick_210]; simpa [isTy, isStp] using h
section
variable {P : Program} {w : World} {K : Fg} {mg : Str → Option Value} {base : Heap}
theorem d_is_step (T : Tx w K mg) {cdv : Value} {A : Around} {outer : List Env} {s : Shared} {H : Hp} {E : XK} (hr : Room 2 (A.deeper (envOfC "is_step" (defScope st_is_step) s.heap.objs.size T.f_is_step cdv))) (hgd : (A.deeper (envOfC "is_step" (defScope st_is_step) s.heap.objs.size T.f_is_step cdv)).guards = some []) :
    PSs (cxOf CX0 P w K mg base N_is_step "is_step" (defScope st_is_step) T.f_is_step cdv A outer s H E).nox (defBody st_is_step) (upS K b_is_step) :=
  (ss_one (s_ret (e_and (e_isi kit_tuple (by rfl) T.n_isinstance (e_var 0 (pv 0)) (c_ty (by rfl) T.n_tuple (by decide +kernel))) (e_and (e_eq hr.units (e_len (by rfl) T.n_len (a_cons (e_var 0 (pv 0)) a_nil)) (e_glob (by rfl) T.c_PAIR_chains T.v_PAIR_chains T.r_PAIR_chains)) (e_and (e_call (ok_is_width T) (hr.mono (by decide)) hgd (by rfl) T.g_is_width T.F_is_width.kp T.b_is_width pass0 (a_cons (e_ix (e_var 0 (pv 0)) e_int) a_nil)) (e_one (e_call (ok_is_rule T) (hr.mono (by decide)) hgd (by rfl) T.g_is_rule T.F_is_rule.kp T.b_is_rule pass0 (a_cons (e_ix (e_var 0 (pv 0)) e_int) a_nil))))))))
theorem ok_is_step (T : Tx w K mg) : Fn P w K mg base CX0 3 T.f_is_step T.fd_is_step ["value"] (lift K 1 fs_is_step) := fn_data T.F_is_step sc_is_step b_is_step (fun _ _ _ _ _ _ hr hgd => d_is_step T hr hgd) p_is_step
end
--@@ is_chain
def b_is_chain : DS :=
  (dRet (dAndV (dIsi "tuple" (dVar 0)) (dAndV (dChain oLe oLe (dC (.int 1)) (dCB cLen (dCons (dVar 0) dNil)) (dC (.int 12))) (dCB cAll (dCons (dFz (dLc [1] (dItems (dVar 0)) (dN 1) dYes (dCall 1 fs_is_step (dCons (dVar 1) dNil)))) dNil)))))
def isChn : Da → Bool
  | .tuple xs => decide (1 ≤ (xs.length : Int)) && decide ((xs.length : Int) ≤ 12) && xs.all isStp
  | _ => false
theorem isChn_ch {c : List (Int × Ru)} (h : c ≠ []) (hl : c.length ≤ 12) (hw : Wds c) : isChn (chD c) = true := by
  have h0 : 0 < c.length := List.length_pos_iff.mpr h
  simp only [isChn, chD, Bool.and_eq_true, decide_eq_true_eq, List.length_map]
  refine ⟨⟨by omega, by omega⟩, ?_⟩
  rw [List.all_map, List.all_eq_true]
  exact fun s hs => isStp_st (hw s hs)
theorem boolsD_map (f : Da → Bool) : ∀ ds : List Da, boolsD (ds.map fun d => .bool (f d)) = some (ds.map f)
  | [] => rfl
  | d :: ds => by
    have := boolsD_map f ds
    simp [boolsD, this]
def fs_is_chain : FSp := fun rs fu post => ∃ v, rs = [.val v] ∧ post (.val (.bool (isChn v))) fu
theorem p_is_chain (rs : List Rv) (fu : Option Nat) (post : Rr → Option Nat → Prop) (hl : rs.length = 1) (h : fs_is_chain rs fu post) : b_is_chain ⟨fun g => post (.val .none) g.fu, fun r g => post r g.fu, fun _ => False, fun _ => False⟩ (ent N_is_chain rs fu) := by
  obtain ⟨v, rfl, h⟩ := h
  cases v with
  | tuple xs =>
    simp only [↓dSeq, ↓dAsg, ↓dSetL, ↓dNext, ↓dIfS, ↓dRet, ↓dRetL, ↓dDrop, ↓dNever, ↓dBrk, ↓dCnt, ↓dAug, ↓dPar, ↓dPar3, ↓dParL, ↓dApp, ↓dExt, ↓dVar, ↓dC, ↓dBin, ↓fI, ↓fI0, ↓fAdd, ↓fEq, ↓fNe, ↓fIn, ↓dTest, ↓dAndT, ↓dOrT, ↓dNotT, ↓dAndV, ↓dOrV, ↓dNotV, ↓dIf, ↓dNeg, ↓dIsN, ↓dChain, ↓dNil, ↓dCons, ↓dTup, ↓dLst, ↓dFz, ↓valsD, ↓dIx, ↓dCall, ↓dCallL, ↓hasSrc, ↓rrv, ↓dN, ↓dT, ↓dTn, ↓dTc, ↓rsv, ↓Gs.set, ↓dFor, ↓dItems, ↓dRange1, ↓dRange2, ↓dZip, ↓dRev, ↓dLc, ↓dCB, ↓cLen, ↓cAll, ↓cTuple, ↓cInt, ↓cInt1, ↓cInt2, ↓dIsi, ↓dBits, ↓dSetS, ↓dCallS, ↓oSub, ↓oAddI, ↓oMul, ↓oDiv, ↓oMod, ↓oShl, ↓oShr, ↓oPow, ↓oAnd, ↓oLt, ↓oLe, ↓oGt, ↓oGe, ↓oAbs, ↓oMax, ↓oMin, ↓dCallK, ↓cRepr, ↓cSum, ↓cMinL, ↓cMaxL, ↓cSorted, ↓cSortedD, ↓cList, ↓dListR, ↓fInD, ↓fMulL, ↓dSl, ↓oNo, ↓oSo, ↓dBy, b_is_chain, ent, svOf, List.map_cons, List.map_nil, List.cons_append, List.nil_append, List.append_nil, List.replicate, List.length_cons, List.length_nil, List.getElem?_cons_zero, List.getElem?_cons_succ, List.getElem?_nil, List.set_cons_zero, List.set_cons_succ, Option.map_some, Option.map_none, Option.isNone_some, Option.isNone_none, forall_const, true_implies, false_implies, and_true, true_and, Bool.true_eq_false, Bool.false_eq_true, reduceCtorEq, noOwn, wipeS, hide, fuN_self, lcD, dYes, Nat.zero_add, Nat.reduceAdd, Nat.reduceLeDiff, Nat.reduceSub, atI_0, atI_1, atI_2, atI_3, atI_4, atI_5, Int.one_mul, eqv_ii, eqv_ss, eqv_num, shaped_int, shaped_num, shaped_none, shaped_ru, flat_str, flat_int, flat_none, List.all_cons, List.all_nil, Bool.and_true, decide_eq_true_eq, decide_eq_false_iff_not, Bool.not_eq_true', Bool.not_eq_false', Decidable.not_not, ↓reduceIte, Bool.false_eq_true, Int.reduceLT, eqv_strs, pick_0, pick_01, pick_10, pick_012, pick_021, pick_102, pick_120, pick_201, pick_210]
    refine ⟨fun _ => ?_, fun z => (by simp [isTy] at z)⟩
    by_cases h1 : 1 ≤ (xs.length : Int)
    · by_cases h2 : (xs.length : Int) ≤ 12
      · rw [decide_eq_true h1]
        refine ⟨fun _ => ?_, fun z => absurd h2 (by simpa using z)⟩
        refine lc_map (fun x => .bool (isStp x)) (fun x hx R hR => ?_) (by simp only [List.length_nil]; omega) ?_
        · simp only [↓dSeq, ↓dAsg, ↓dSetL, ↓dNext, ↓dIfS, ↓dRet, ↓dRetL, ↓dDrop, ↓dNever, ↓dBrk, ↓dCnt, ↓dAug, ↓dPar, ↓dPar3, ↓dParL, ↓dApp, ↓dExt, ↓dVar, ↓dC, ↓dBin, ↓fI, ↓fI0, ↓fAdd, ↓fEq, ↓fNe, ↓fIn, ↓dTest, ↓dAndT, ↓dOrT, ↓dNotT, ↓dAndV, ↓dOrV, ↓dNotV, ↓dIf, ↓dNeg, ↓dIsN, ↓dChain, ↓dNil, ↓dCons, ↓dTup, ↓dLst, ↓dFz, ↓valsD, ↓dIx, ↓dCall, ↓dCallL, ↓hasSrc, ↓rrv, ↓dN, ↓dT, ↓dTn, ↓dTc, ↓rsv, ↓Gs.set, ↓dFor, ↓dItems, ↓dRange1, ↓dRange2, ↓dZip, ↓dRev, ↓dLc, ↓dCB, ↓cLen, ↓cAll, ↓cTuple, ↓cInt, ↓cInt1, ↓cInt2, ↓dIsi, ↓dBits, ↓dSetS, ↓dCallS, ↓oSub, ↓oAddI, ↓oMul, ↓oDiv, ↓oMod, ↓oShl, ↓oShr, ↓oPow, ↓oAnd, ↓oLt, ↓oLe, ↓oGt, ↓oGe, ↓oAbs, ↓oMax, ↓oMin, ↓dCallK, ↓cRepr, ↓cSum, ↓cMinL, ↓cMaxL, ↓cSorted, ↓cSortedD, ↓cList, ↓dListR, ↓fInD, ↓fMulL, ↓dSl, ↓oNo, ↓oSo, ↓dBy, fs_is_step, ent, svOf, List.map_cons, List.map_nil, List.cons_append, List.nil_append, List.append_nil, List.replicate, List.length_cons, List.length_nil, List.getElem?_cons_zero, List.getElem?_cons_succ, List.getElem?_nil, List.set_cons_zero, List.set_cons_succ, Option.map_some, Option.map_none, Option.isNone_some, Option.isNone_none, forall_const, true_implies, false_implies, and_true, true_and, Bool.true_eq_false, Bool.false_eq_true, reduceCtorEq, noOwn, wipeS, hide, fuN_self, lcD, dYes, Nat.zero_add, Nat.reduceAdd, Nat.reduceLeDiff, Nat.reduceSub, atI_0, atI_1, atI_2, atI_3, atI_4, atI_5, Int.one_mul, eqv_ii, eqv_ss, eqv_num, shaped_int, shaped_num, shaped_none, shaped_ru, flat_str, flat_int, flat_none, List.all_cons, List.all_nil, Bool.and_true, decide_eq_true_eq, decide_eq_false_iff_not, Bool.not_eq_true', Bool.not_eq_false', Decidable.not_not, ↓reduceIte, Bool.false_eq_true, Int.reduceLT, eqv_strs, pick_0, pick_01, pick_10, pick_012, pick_021, pick_102, pick_120, pick_201, pick_210]
          exact ⟨x, rfl, hR _ rfl⟩
        · rw [List.nil_append, boolsD_map]
          simp only [isChn, h1, h2, decide_true, Bool.true_and] at h
          show post (.val (.bool ((List.map isStp xs).all id))) fu
          rw [List.all_map]
          exact h
      · rw [decide_eq_true h1]
        refine ⟨fun z => absurd (by simpa using z) h2, fun _ => ?_⟩
        simp only [isChn, h2, decide_false, Bool.and_false, Bool.false_and] at h
        exact h
    · rw [decide_eq_false h1]
      simp only [↓dSeq, ↓dAsg, ↓dSetL, ↓dNext, ↓dIfS, ↓dRet, ↓dRetL, ↓dDrop, ↓dNever, ↓dBrk, ↓dCnt, ↓dAug, ↓dPar, ↓dPar3, ↓dParL, ↓dApp, ↓dExt, ↓dVar, ↓dC, ↓dBin, ↓fI, ↓fI0, ↓fAdd, ↓fEq, ↓fNe, ↓fIn, ↓dTest, ↓dAndT, ↓dOrT, ↓dNotT, ↓dAndV, ↓dOrV, ↓dNotV, ↓dIf, ↓dNeg, ↓dIsN, ↓dChain, ↓dNil, ↓dCons, ↓dTup, ↓dLst, ↓dFz, ↓valsD, ↓dIx, ↓dCall, ↓dCallL, ↓hasSrc, ↓rrv, ↓dN, ↓dT, ↓dTn, ↓dTc, ↓rsv, ↓Gs.set, ↓dFor, ↓dItems, ↓dRange1, ↓dRange2, ↓dZip, ↓dRev, ↓dLc, ↓dCB, ↓cLen, ↓cAll, ↓cTuple, ↓cInt, ↓cInt1, ↓cInt2, ↓dIsi, ↓dBits, ↓dSetS, ↓dCallS, ↓oSub, ↓oAddI, ↓oMul, ↓oDiv, ↓oMod, ↓oShl, ↓oShr, ↓oPow, ↓oAnd, ↓oLt, ↓oLe, ↓oGt, ↓oGe, ↓oAbs, ↓oMax, ↓oMin, ↓dCallK, ↓cRepr, ↓cSum, ↓cMinL, ↓cMaxL, ↓cSorted, ↓cSortedD, ↓cList, ↓dListR, ↓fInD, ↓fMulL, ↓dSl, ↓oNo, ↓oSo, ↓dBy, ent, svOf, List.map_cons, List.map_nil, List.cons_append, List.nil_append, List.append_nil, List.replicate, List.length_cons, List.length_nil, List.getElem?_cons_zero, List.getElem?_cons_succ, List.getElem?_nil, List.set_cons_zero, List.set_cons_succ, Option.map_some, Option.map_none, Option.isNone_some, Option.isNone_none, forall_const, true_implies, false_implies, and_true, true_and, Bool.true_eq_false, Bool.false_eq_true, reduceCtorEq, noOwn, wipeS, hide, fuN_self, lcD, dYes, Nat.zero_add, Nat.reduceAdd, Nat.reduceLeDiff, Nat.reduceSub, atI_0, atI_1, atI_2, atI_3, atI_4, atI_5, Int.one_mul, eqv_ii, eqv_ss, eqv_num, shaped_int, shaped_num, shaped_none, shaped_ru, flat_str, flat_int, flat_none, List.all_cons, List.all_nil, Bool.and_true, decide_eq_true_eq, decide_eq_false_iff_not, Bool.not_eq_true', Bool.not_eq_false', Decidable.not_not, ↓reduceIte, Bool.false_eq_true, Int.reduceLT, eqv_strs, pick_0, pick_01, pick_10, pick_012, pick_021, pick_102, pick_120, pick_201, pick_210]
      simp only [isChn, h1, decide_false, Bool.and_false, Bool.false_and] at h
      exact h
  | _ => simp only [↓dSeq, ↓dAsg, ↓dSetL, ↓dNext, ↓dIfS, ↓dRet, ↓dRetL, ↓dDrop, ↓dNever, ↓dBrk, ↓dCnt, ↓dAug, ↓dPar, ↓dPar3, ↓dParL, ↓dApp, ↓dExt, ↓dVar, ↓dC, ↓dBin, ↓fI, ↓fI0, ↓fAdd, ↓fEq, ↓fNe, ↓fIn, ↓dTest, ↓dAndT, ↓dOrT, ↓dNotT, ↓dAndV, ↓dOrV, ↓dNotV, ↓dIf, ↓dNeg, ↓dIsN, ↓dChain, ↓dNil, ↓dCons, ↓dTup, ↓dLst, ↓dFz, ↓valsD, ↓dIx, ↓dCall, ↓dCallL, ↓hasSrc, ↓rrv, ↓dN, ↓dT, ↓dTn, ↓dTc, ↓rsv, ↓Gs.set, ↓dFor, ↓dItems, ↓dRange1, ↓dRange2, ↓dZip, ↓dRev, ↓dLc, ↓dCB, ↓cLen, ↓cAll, ↓cTuple, ↓cInt, ↓cInt1, ↓cInt2, ↓dIsi, ↓dBits, ↓dSetS, ↓dCallS, ↓oSub, ↓oAddI, ↓oMul, ↓oDiv, ↓oMod, ↓oShl, ↓oShr, ↓oPow, ↓oAnd, ↓oLt, ↓oLe, ↓oGt, ↓oGe, ↓oAbs, ↓oMax, ↓oMin, ↓dCallK, ↓cRepr, ↓cSum, ↓cMinL, ↓cMaxL, ↓cSorted, ↓cSortedD, ↓cList, ↓dListR, ↓fInD, ↓fMulL, ↓dSl, ↓oNo, ↓oSo, ↓dBy, b_is_chain, ent, svOf, List.map_cons, List.map_nil, List.cons_append, List.nil_append, List.append_nil, List.replicate, List.length_cons, List.length_nil, List.getElem?_cons_zero, List.getElem?_cons_succ, List.getElem?_nil, List.set_cons_zero, List.set_cons_succ, Option.map_some, Option.map_none, Option.isNone_some, Option.isNone_none, forall_const, true_implies, false_implies, and_true, true_and, Bool.true_eq_false, Bool.false_eq_true, reduceCtorEq, noOwn, wipeS, hide, fuN_self, lcD, dYes, Nat.zero_add, Nat.reduceAdd, Nat.reduceLeDiff, Nat.reduceSub, atI_0, atI_1, atI_2, atI_3, atI_4, atI_5, Int.one_mul, eqv_ii, eqv_ss, eqv_num, shaped_int, shaped_num, shaped_none, shaped_ru, flat_str, flat_int, flat_none, List.all_cons, List.all_nil, Bool.and_true, decide_eq_true_eq, decide_eq_false_iff_not, Bool.not_eq_true', Bool.not_eq_false', Decidable.not_not, ↓reduceIte, Bool.false_eq_true, Int.reduceLT, eqv_strs, pick_0, pick_01, pick_10, pick_012, pick_021, pick_102, pick_120, pick_201, pick_210]; simpa [isTy, isChn] using h
section
variable {P : Program} {w : World} {K : Fg} {mg : Str → Option Value} {base : Heap}
theorem d_is_chain (T : Tx w K mg) {cdv : Value} {A : Around} {outer : List Env} {s : Shared} {H : Hp} {E : XK} (hr : Room 3 (A.deeper (envOfC "is_chain" (defScope st_is_chain) s.heap.objs.size T.f_is_chain cdv))) (hgd : (A.deeper (envOfC "is_chain" (defScope st_is_chain) s.heap.objs.size T.f_is_chain cdv)).guards = some []) :
    PSs (cxOf CX0 P w K mg base N_is_chain "is_chain" (defScope st_is_chain) T.f_is_chain cdv A outer s H E).nox (defBody st_is_chain) (upS K b_is_chain) :=
  (ss_one (s_ret (e_and (e_isi kit_tuple (by rfl) T.n_isinstance (e_var 0 (pv 0)) (c_ty (by rfl) T.n_tuple (by decide +kernel))) (e_and (e_lele e_int (e_len (by rfl) T.n_len (a_cons (e_var 0 (pv 0)) a_nil)) (e_glob (by rfl) T.c_MOST_STEPS T.v_MOST_STEPS T.r_MOST_STEPS)) (e_one (e_all rfl (by rfl) T.n_all (a_cons (e_fz (e_lc (own := [("step", 1)]) rfl sc_is_chain.nd (i_items (e_var 0 (pv 0))) (blkOk_by (own := [("step", 1)]) (N := N_is_chain) (sc := defScope st_is_chain) (by decide +kernel)) (fun _ _ _ _ _ => (gw_name rfl (pg_name (i := 1) sc_is_chain.nd rfl (.inl rfl)) (by decide))) (fun _ _ _ _ _ => ts_yes) (fun _ _ _ _ _ => (e_call (ok_is_step T) (hr.mono (by decide)) hgd (by rfl) T.g_is_step T.F_is_step.kp T.b_is_step pass0 (a_cons (e_var 1 (pv 1)) a_nil))))) a_nil)))))))
theorem ok_is_chain (T : Tx w K mg) : Fn P w K mg base CX0 4 T.f_is_chain T.fd_is_chain ["value"] (lift K 1 fs_is_chain) := fn_data T.F_is_chain sc_is_chain b_is_chain (fun _ _ _ _ _ _ hr hgd => d_is_chain T hr hgd) p_is_chain
end
--@@ check_chain
def b_check_chain : DS :=
  (dIfS (dNotT (dTest (dCall 1 fs_is_chain (dCons (dVar 0) dNil))))
    dNever
    dNext)
theorem _root_.Z.Chn1.is {c : List (Int × Ru)} (h : Chn1 c) : isChn (chD c) = true := isChn_ch h.ne h.len h.w
def fs_check_chain : FSp := fun rs fu post => ∃ v, rs = [.val v] ∧ isChn v = true ∧ post (.val .none) fu
theorem p_check_chain (rs : List Rv) (fu : Option Nat) (post : Rr → Option Nat → Prop) (hl : rs.length = 1) (h : fs_check_chain rs fu post) : b_check_chain ⟨fun g => post (.val .none) g.fu, fun r g => post r g.fu, fun _ => False, fun _ => False⟩ (ent N_check_chain rs fu) := by
  obtain ⟨v, rfl, hv, h⟩ := h
  simp only [↓dSeq, ↓dAsg, ↓dSetL, ↓dNext, ↓dIfS, ↓dRet, ↓dRetL, ↓dDrop, ↓dNever, ↓dBrk, ↓dCnt, ↓dAug, ↓dPar, ↓dPar3, ↓dParL, ↓dApp, ↓dExt, ↓dVar, ↓dC, ↓dBin, ↓fI, ↓fI0, ↓fAdd, ↓fEq, ↓fNe, ↓fIn, ↓dTest, ↓dAndT, ↓dOrT, ↓dNotT, ↓dAndV, ↓dOrV, ↓dNotV, ↓dIf, ↓dNeg, ↓dIsN, ↓dChain, ↓dNil, ↓dCons, ↓dTup, ↓dLst, ↓dFz, ↓valsD, ↓dIx, ↓dCall, ↓dCallL, ↓hasSrc, ↓rrv, ↓dN, ↓dT, ↓dTn, ↓dTc, ↓rsv, ↓Gs.set, ↓dFor, ↓dItems, ↓dRange1, ↓dRange2, ↓dZip, ↓dRev, ↓dLc, ↓dCB, ↓cLen, ↓cAll, ↓cTuple, ↓cInt, ↓cInt1, ↓cInt2, ↓dIsi, ↓dBits, ↓dSetS, ↓dCallS, ↓oSub, ↓oAddI, ↓oMul, ↓oDiv, ↓oMod, ↓oShl, ↓oShr, ↓oPow, ↓oAnd, ↓oLt, ↓oLe, ↓oGt, ↓oGe, ↓oAbs, ↓oMax, ↓oMin, ↓dCallK, ↓cRepr, ↓cSum, ↓cMinL, ↓cMaxL, ↓cSorted, ↓cSortedD, ↓cList, ↓dListR, ↓fInD, ↓fMulL, ↓dSl, ↓oNo, ↓oSo, ↓dBy, b_check_chain, fs_is_chain, ent, svOf, List.map_cons, List.map_nil, List.cons_append, List.nil_append, List.append_nil, List.replicate, List.length_cons, List.length_nil, List.getElem?_cons_zero, List.getElem?_cons_succ, List.getElem?_nil, List.set_cons_zero, List.set_cons_succ, Option.map_some, Option.map_none, Option.isNone_some, Option.isNone_none, forall_const, true_implies, false_implies, and_true, true_and, Bool.true_eq_false, Bool.false_eq_true, reduceCtorEq, noOwn, wipeS, hide, fuN_self, lcD, dYes, Nat.zero_add, Nat.reduceAdd, Nat.reduceLeDiff, Nat.reduceSub, atI_0, atI_1, atI_2, atI_3, atI_4, atI_5, Int.one_mul, eqv_ii, eqv_ss, eqv_num, shaped_int, shaped_num, shaped_none, shaped_ru, flat_str, flat_int, flat_none, List.all_cons, List.all_nil, Bool.and_true, decide_eq_true_eq, decide_eq_false_iff_not, Bool.not_eq_true', Bool.not_eq_false', Decidable.not_not, ↓reduceIte, Bool.false_eq_true, Int.reduceLT, eqv_strs, pick_0, pick_01, pick_10, pick_012, pick_021, pick_102, pick_120, pick_201, pick_210]
  refine ⟨v, rfl, fun z => ?_, fun _ => h⟩
  rw [hv] at z
  exact absurd z (by decide)
section
variable {P : Program} {w : World} {K : Fg} {mg : Str → Option Value} {base : Heap}
theorem d_check_chain (T : Tx w K mg) {cdv : Value} {A : Around} {outer : List Env} {s : Shared} {H : Hp} {E : XK} (hr : Room 4 (A.deeper (envOfC "check_chain" (defScope st_check_chain) s.heap.objs.size T.f_check_chain cdv))) (hgd : (A.deeper (envOfC "check_chain" (defScope st_check_chain) s.heap.objs.size T.f_check_chain cdv)).guards = some []) :
    PSs (cxOf CX0 P w K mg base N_check_chain "check_chain" (defScope st_check_chain) T.f_check_chain cdv A outer s H E).nox (defBody st_check_chain) (upS K b_check_chain) :=
  (ss_one (s_if (t_not (t_val (e_call (ok_is_chain T) (hr.mono (by decide)) hgd (by rfl) T.g_is_chain T.F_is_chain.kp T.b_is_chain pass0 (a_cons (e_var 0 (pv 0)) a_nil)))) (ss_one s_never) ss_nil))
theorem ok_check_chain (T : Tx w K mg) : Fn P w K mg base CX0 5 T.f_check_chain T.fd_check_chain ["value"] (lift K 1 fs_check_chain) := fn_data T.F_check_chain sc_check_chain b_check_chain (fun _ _ _ _ _ _ hr hgd => d_check_chain T hr hgd) p_check_chain
end
--@@ last_width
def b_last_width : DS :=
  (dSeq (dDrop (dCall 1 fs_check_chain (dCons (dVar 0) dNil)))
  (dRet (dCB cMinL (dCons (dFz (dLc [1, 2] (dItems (dVar 0)) (dT 2 (dTc (dN 1) (dTc (dN 2) dTn))) dYes (dVar 1))) dNil))))
def fs_last_width : FSp := fun rs fu post => ∃ c : List (Int × Ru), rs = [.val (chD c)] ∧ Chn1 c ∧ post (.val (.int (chT c).1)) fu
theorem p_last_width (rs : List Rv) (fu : Option Nat) (post : Rr → Option Nat → Prop) (hl : rs.length = 1) (h : fs_last_width rs fu post) : b_last_width ⟨fun g => post (.val .none) g.fu, fun r g => post r g.fu, fun _ => False, fun _ => False⟩ (ent N_last_width rs fu) := by
  obtain ⟨c, rfl, hc, h⟩ := h
  simp only [↓dSeq, ↓dAsg, ↓dSetL, ↓dNext, ↓dIfS, ↓dRet, ↓dRetL, ↓dDrop, ↓dNever, ↓dBrk, ↓dCnt, ↓dAug, ↓dPar, ↓dPar3, ↓dParL, ↓dApp, ↓dExt, ↓dVar, ↓dC, ↓dBin, ↓fI, ↓fI0, ↓fAdd, ↓fEq, ↓fNe, ↓fIn, ↓dTest, ↓dAndT, ↓dOrT, ↓dNotT, ↓dAndV, ↓dOrV, ↓dNotV, ↓dIf, ↓dNeg, ↓dIsN, ↓dChain, ↓dNil, ↓dCons, ↓dTup, ↓dLst, ↓dFz, ↓valsD, ↓dIx, ↓dCall, ↓dCallL, ↓hasSrc, ↓rrv, ↓dN, ↓dT, ↓dTn, ↓dTc, ↓rsv, ↓Gs.set, ↓dFor, ↓dItems, ↓dRange1, ↓dRange2, ↓dZip, ↓dRev, ↓dLc, ↓dCB, ↓cLen, ↓cAll, ↓cTuple, ↓cInt, ↓cInt1, ↓cInt2, ↓dIsi, ↓dBits, ↓dSetS, ↓dCallS, ↓oSub, ↓oAddI, ↓oMul, ↓oDiv, ↓oMod, ↓oShl, ↓oShr, ↓oPow, ↓oAnd, ↓oLt, ↓oLe, ↓oGt, ↓oGe, ↓oAbs, ↓oMax, ↓oMin, ↓dCallK, ↓cRepr, ↓cSum, ↓cMinL, ↓cMaxL, ↓cSorted, ↓cSortedD, ↓cList, ↓dListR, ↓fInD, ↓fMulL, ↓dSl, ↓oNo, ↓oSo, ↓dBy, b_last_width, fs_check_chain, ent, svOf, List.map_cons, List.map_nil, List.cons_append, List.nil_append, List.append_nil, List.replicate, List.length_cons, List.length_nil, List.getElem?_cons_zero, List.getElem?_cons_succ, List.getElem?_nil, List.set_cons_zero, List.set_cons_succ, Option.map_some, Option.map_none, Option.isNone_some, Option.isNone_none, forall_const, true_implies, false_implies, and_true, true_and, Bool.true_eq_false, Bool.false_eq_true, reduceCtorEq, noOwn, wipeS, hide, fuN_self, lcD, dYes, Nat.zero_add, Nat.reduceAdd, Nat.reduceLeDiff, Nat.reduceSub, atI_0, atI_1, atI_2, atI_3, atI_4, atI_5, Int.one_mul, eqv_ii, eqv_ss, eqv_num, shaped_int, shaped_num, shaped_none, shaped_ru, flat_str, flat_int, flat_none, List.all_cons, List.all_nil, Bool.and_true, decide_eq_true_eq, decide_eq_false_iff_not, Bool.not_eq_true', Bool.not_eq_false', Decidable.not_not, ↓reduceIte, Bool.false_eq_true, Int.reduceLT, eqv_strs, pick_0, pick_01, pick_10, pick_012, pick_021, pick_102, pick_120, pick_201, pick_210]
  refine ⟨_, rfl, hc.is, ?_⟩
  unfold chD
  simp only [↓dSeq, ↓dAsg, ↓dSetL, ↓dNext, ↓dIfS, ↓dRet, ↓dRetL, ↓dDrop, ↓dNever, ↓dBrk, ↓dCnt, ↓dAug, ↓dPar, ↓dPar3, ↓dParL, ↓dApp, ↓dExt, ↓dVar, ↓dC, ↓dBin, ↓fI, ↓fI0, ↓fAdd, ↓fEq, ↓fNe, ↓fIn, ↓dTest, ↓dAndT, ↓dOrT, ↓dNotT, ↓dAndV, ↓dOrV, ↓dNotV, ↓dIf, ↓dNeg, ↓dIsN, ↓dChain, ↓dNil, ↓dCons, ↓dTup, ↓dLst, ↓dFz, ↓valsD, ↓dIx, ↓dCall, ↓dCallL, ↓hasSrc, ↓rrv, ↓dN, ↓dT, ↓dTn, ↓dTc, ↓rsv, ↓Gs.set, ↓dFor, ↓dItems, ↓dRange1, ↓dRange2, ↓dZip, ↓dRev, ↓dLc, ↓dCB, ↓cLen, ↓cAll, ↓cTuple, ↓cInt, ↓cInt1, ↓cInt2, ↓dIsi, ↓dBits, ↓dSetS, ↓dCallS, ↓oSub, ↓oAddI, ↓oMul, ↓oDiv, ↓oMod, ↓oShl, ↓oShr, ↓oPow, ↓oAnd, ↓oLt, ↓oLe, ↓oGt, ↓oGe, ↓oAbs, ↓oMax, ↓oMin, ↓dCallK, ↓cRepr, ↓cSum, ↓cMinL, ↓cMaxL, ↓cSorted, ↓cSortedD, ↓cList, ↓dListR, ↓fInD, ↓fMulL, ↓dSl, ↓oNo, ↓oSo, ↓dBy, ent, svOf, List.map_cons, List.map_nil, List.cons_append, List.nil_append, List.append_nil, List.replicate, List.length_cons, List.length_nil, List.getElem?_cons_zero, List.getElem?_cons_succ, List.getElem?_nil, List.set_cons_zero, List.set_cons_succ, Option.map_some, Option.map_none, Option.isNone_some, Option.isNone_none, forall_const, true_implies, false_implies, and_true, true_and, Bool.true_eq_false, Bool.false_eq_true, reduceCtorEq, noOwn, wipeS, hide, fuN_self, lcD, dYes, Nat.zero_add, Nat.reduceAdd, Nat.reduceLeDiff, Nat.reduceSub, atI_0, atI_1, atI_2, atI_3, atI_4, atI_5, Int.one_mul, eqv_ii, eqv_ss, eqv_num, shaped_int, shaped_num, shaped_none, shaped_ru, flat_str, flat_int, flat_none, List.all_cons, List.all_nil, Bool.and_true, decide_eq_true_eq, decide_eq_false_iff_not, Bool.not_eq_true', Bool.not_eq_false', Decidable.not_not, ↓reduceIte, Bool.false_eq_true, Int.reduceLT, eqv_strs, pick_0, pick_01, pick_10, pick_012, pick_021, pick_102, pick_120, pick_201, pick_210]
  refine lc_mapT (fun d => match d with | .tuple (x :: _) => x | _ => .none) (fun x hx R N hR => ?_) (by have := hc.len; simp; omega) ?_
  · obtain ⟨s, hs, rfl⟩ := List.mem_map.mp hx
    unfold stD at hR ⊢
    simp only [↓dSeq, ↓dAsg, ↓dSetL, ↓dNext, ↓dIfS, ↓dRet, ↓dRetL, ↓dDrop, ↓dNever, ↓dBrk, ↓dCnt, ↓dAug, ↓dPar, ↓dPar3, ↓dParL, ↓dApp, ↓dExt, ↓dVar, ↓dC, ↓dBin, ↓fI, ↓fI0, ↓fAdd, ↓fEq, ↓fNe, ↓fIn, ↓dTest, ↓dAndT, ↓dOrT, ↓dNotT, ↓dAndV, ↓dOrV, ↓dNotV, ↓dIf, ↓dNeg, ↓dIsN, ↓dChain, ↓dNil, ↓dCons, ↓dTup, ↓dLst, ↓dFz, ↓valsD, ↓dIx, ↓dCall, ↓dCallL, ↓hasSrc, ↓rrv, ↓dN, ↓dT, ↓dTn, ↓dTc, ↓rsv, ↓Gs.set, ↓dFor, ↓dItems, ↓dRange1, ↓dRange2, ↓dZip, ↓dRev, ↓dLc, ↓dCB, ↓cLen, ↓cAll, ↓cTuple, ↓cInt, ↓cInt1, ↓cInt2, ↓dIsi, ↓dBits, ↓dSetS, ↓dCallS, ↓oSub, ↓oAddI, ↓oMul, ↓oDiv, ↓oMod, ↓oShl, ↓oShr, ↓oPow, ↓oAnd, ↓oLt, ↓oLe, ↓oGt, ↓oGe, ↓oAbs, ↓oMax, ↓oMin, ↓dCallK, ↓cRepr, ↓cSum, ↓cMinL, ↓cMaxL, ↓cSorted, ↓cSortedD, ↓cList, ↓dListR, ↓fInD, ↓fMulL, ↓dSl, ↓oNo, ↓oSo, ↓dBy, ent, svOf, List.map_cons, List.map_nil, List.cons_append, List.nil_append, List.append_nil, List.replicate, List.length_cons, List.length_nil, List.getElem?_cons_zero, List.getElem?_cons_succ, List.getElem?_nil, List.set_cons_zero, List.set_cons_succ, Option.map_some, Option.map_none, Option.isNone_some, Option.isNone_none, forall_const, true_implies, false_implies, and_true, true_and, Bool.true_eq_false, Bool.false_eq_true, reduceCtorEq, noOwn, wipeS, hide, fuN_self, lcD, dYes, Nat.zero_add, Nat.reduceAdd, Nat.reduceLeDiff, Nat.reduceSub, atI_0, atI_1, atI_2, atI_3, atI_4, atI_5, Int.one_mul, eqv_ii, eqv_ss, eqv_num, shaped_int, shaped_num, shaped_none, shaped_ru, flat_str, flat_int, flat_none, List.all_cons, List.all_nil, Bool.and_true, decide_eq_true_eq, decide_eq_false_iff_not, Bool.not_eq_true', Bool.not_eq_false', Decidable.not_not, ↓reduceIte, Bool.false_eq_true, Int.reduceLT, eqv_strs, pick_0, pick_01, pick_10, pick_012, pick_021, pick_102, pick_120, pick_201, pick_210]
    exact hR _ rfl
  · have e : List.map (fun d => match d with | .tuple (x :: _) => x | _ => .none) (c.map stD) = (c.map Prod.fst).map PyData.int := by
      rw [List.map_map, List.map_map]
      rfl
    rw [List.nil_append, e, intsD_map]
    obtain ⟨m1, s, hs, m2⟩ := chT_min hc.ne
    refine ⟨by rw [List.length_map]; exact List.length_pos_iff.mpr hc.ne, fun m hm hy => ?_⟩
    obtain ⟨t, ht, rfl⟩ := List.mem_map.mp hm
    have a := hy s.1 (List.mem_map_of_mem hs)
    have b := m1 t ht
    have : t.1 = (chT c).1 := by omega
    rw [this]
    exact h
section
variable {P : Program} {w : World} {K : Fg} {mg : Str → Option Value} {base : Heap}
theorem d_last_width (T : Tx w K mg) {cdv : Value} {A : Around} {outer : List Env} {s : Shared} {H : Hp} {E : XK} (hr : Room 5 (A.deeper (envOfC "last_width" (defScope st_last_width) s.heap.objs.size T.f_last_width cdv))) (hgd : (A.deeper (envOfC "last_width" (defScope st_last_width) s.heap.objs.size T.f_last_width cdv)).guards = some []) :
    PSs (cxOf CX0 P w K mg base N_last_width "last_width" (defScope st_last_width) T.f_last_width cdv A outer s H E).nox (defBody st_last_width) (upS K b_last_width) :=
  (ss_cons (s_expr (e_call (ok_check_chain T) (hr.mono (by decide)) hgd (by rfl) T.g_check_chain T.F_check_chain.kp T.b_check_chain pass0 (a_cons (e_var 0 (pv 0)) a_nil)))
    (ss_one (s_ret (e_minL rfl (by rfl) T.n_min (a_cons (e_fz (e_lc (own := [("width", 1), ("rule", 2)]) rfl sc_last_width.nd (i_items (e_var 0 (pv 0))) (blkOk_by (own := [("width", 1), ("rule", 2)]) (N := N_last_width) (sc := defScope st_last_width) (by decide +kernel)) (fun _ _ _ _ _ => (gw_tup rfl rfl (gsw_cons (gw_name rfl (pg_name (i := 1) sc_last_width.nd rfl (.inl rfl)) (by decide)) (gsw_cons (gw_name rfl (pg_name (i := 2) sc_last_width.nd rfl (.inl rfl)) (by decide)) gsw_nil)))) (fun _ _ _ _ _ => ts_yes) (fun _ _ _ _ _ => (e_var 1 (pv 1))))) a_nil)))))
theorem ok_last_width (T : Tx w K mg) : Fn P w K mg base CX0 6 T.f_last_width T.fd_last_width ["chain"] (lift K 1 fs_last_width) := fn_data T.F_last_width sc_last_width b_last_width (fun _ _ _ _ _ _ hr hgd => d_last_width T hr hgd) p_last_width
end
--@@ stages
def b_stages : DS :=
  (dSeq (dDrop (dCall 1 fs_check_number (dCons (dVar 0) dNil)))
  (dSeq (dDrop (dCall 1 fs_check_chain (dCons (dVar 1) dNil)))
  (dSeq (dSetL 2 (dLst dNil))
  (dSeq (dFor (dItems (dVar 1)) (dT 2 (dTc (dN 3) (dTc (dN 4) dTn)))
    (dSeq (dAsg (dCall 3 fs_round_once (dCons (dVar 0) (dCons (dVar 3) (dCons (dVar 4) dNil)))) (dN 0))
  (dApp 2 (dVar 0))))
  (dRet (dCB cTuple (dCons (dVar 2) dNil)))))))
def stagD (n d : Int) (c : List (Int × Ru)) : List Da := (stagI n d c).map nm
def fs_stages : FSp := fun rs fu post => ∃ (n d : Int) (c : List (Int × Ru)), rs = [.val (num n d), .val (chD c)] ∧ NuB 1000 n d ∧ Chn1 c ∧ post (.val (.tuple (stagD n d c))) fu
def stgB : DS := (dSeq (dAsg (dCall 3 fs_round_once (dCons (dVar 0) (dCons (dVar 3) (dCons (dVar 4) dNil)))) (dN 0))
  (dApp 2 (dVar 0)))
theorem p_stgB {D : DEnds} {x : Option Sv} {fu : Option Nat} : ∀ {c : List (Int × Ru)} {n d : Int} {acc : List Da} {y z : Option Sv}, Wds c → NuB 1000 n d → acc.length + c.length ≤ 100 →
    (∀ (n' d' : Int) (y z : Option Sv), D.nx ⟨[some (.val (num n' d')), x, some (.own (acc ++ stagD n d c)), y, z], fu, fu.isNone⟩) →
    forD (dT 2 (dTc (dN 3) (dTc (dN 4) dTn))) stgB (c.map stD) D ⟨[some (.val (num n d)), x, some (.own acc), y, z], fu, fu.isNone⟩
  | [], n, d, acc, y, z, _, _, _, h => by
    have := h n d y z
    rw [show stagD n d [] = [] from rfl, List.append_nil] at this
    exact this
  | s :: c, n, d, acc, y, z, hw, hn, hl, h => by
    obtain ⟨w1, w2⟩ := hw.hd
    have ih := p_stgB (D := D) (x := x) (fu := fu) (c := c) (n := (roundI n d s.1 s.2).1) (d := (roundI n d s.1 s.2).2) (acc := acc ++ [nm (roundI n d s.1 s.2)]) (y := some (.val (.int s.1))) (z := some (.val (.str s.2.s))) hw.tl (hn.round s.2 w1 w2) (by simp only [List.length_append, List.length_cons, List.length_nil] at hl ⊢; omega) (fun n' d' y z => by
      have := h n' d' y z
      rw [show stagD n d (s :: c) = nm (roundI n d s.1 s.2) :: stagD (roundI n d s.1 s.2).1 (roundI n d s.1 s.2).2 c from rfl] at this
      rw [List.append_assoc]
      exact this)
    show dT 2 _ (.val (stD s)) _ _
    unfold stD
    simp only [↓dSeq, ↓dAsg, ↓dSetL, ↓dNext, ↓dIfS, ↓dRet, ↓dRetL, ↓dDrop, ↓dNever, ↓dBrk, ↓dCnt, ↓dAug, ↓dPar, ↓dPar3, ↓dParL, ↓dApp, ↓dExt, ↓dVar, ↓dC, ↓dBin, ↓fI, ↓fI0, ↓fAdd, ↓fEq, ↓fNe, ↓fIn, ↓dTest, ↓dAndT, ↓dOrT, ↓dNotT, ↓dAndV, ↓dOrV, ↓dNotV, ↓dIf, ↓dNeg, ↓dIsN, ↓dChain, ↓dNil, ↓dCons, ↓dTup, ↓dLst, ↓dFz, ↓valsD, ↓dIx, ↓dCall, ↓dCallL, ↓hasSrc, ↓rrv, ↓dN, ↓dT, ↓dTn, ↓dTc, ↓rsv, ↓Gs.set, ↓dFor, ↓dItems, ↓dRange1, ↓dRange2, ↓dZip, ↓dRev, ↓dLc, ↓dCB, ↓cLen, ↓cAll, ↓cTuple, ↓cInt, ↓cInt1, ↓cInt2, ↓dIsi, ↓dBits, ↓dSetS, ↓dCallS, ↓oSub, ↓oAddI, ↓oMul, ↓oDiv, ↓oMod, ↓oShl, ↓oShr, ↓oPow, ↓oAnd, ↓oLt, ↓oLe, ↓oGt, ↓oGe, ↓oAbs, ↓oMax, ↓oMin, ↓dCallK, ↓cRepr, ↓cSum, ↓cMinL, ↓cMaxL, ↓cSorted, ↓cSortedD, ↓cList, ↓dListR, ↓fInD, ↓fMulL, ↓dSl, ↓oNo, ↓oSo, ↓dBy, stgB, fs_round_once, ent, svOf, List.map_cons, List.map_nil, List.cons_append, List.nil_append, List.append_nil, List.replicate, List.length_cons, List.length_nil, List.getElem?_cons_zero, List.getElem?_cons_succ, List.getElem?_nil, List.set_cons_zero, List.set_cons_succ, Option.map_some, Option.map_none, Option.isNone_some, Option.isNone_none, forall_const, true_implies, false_implies, and_true, true_and, Bool.true_eq_false, Bool.false_eq_true, reduceCtorEq, noOwn, wipeS, hide, fuN_self, lcD, dYes, Nat.zero_add, Nat.reduceAdd, Nat.reduceLeDiff, Nat.reduceSub, atI_0, atI_1, atI_2, atI_3, atI_4, atI_5, Int.one_mul, eqv_ii, eqv_ss, eqv_num, shaped_int, shaped_num, shaped_none, shaped_ru, flat_str, flat_int, flat_none, List.all_cons, List.all_nil, Bool.and_true, decide_eq_true_eq, decide_eq_false_iff_not, Bool.not_eq_true', Bool.not_eq_false', Decidable.not_not, ↓reduceIte, Bool.false_eq_true, Int.reduceLT, eqv_strs, pick_0, pick_01, pick_10, pick_012, pick_021, pick_102, pick_120, pick_201, pick_210]
    refine ⟨n, d, s.1, s.2, rfl, hn.nu.n0, hn.bn.mono (by decide), hn.nu.d0, hn.bd.mono (by decide), w1, w2, ⟨_, rfl⟩, by simp only [List.length_cons] at hl; omega, ?_⟩
    exact ih
theorem p_stages (rs : List Rv) (fu : Option Nat) (post : Rr → Option Nat → Prop) (hl : rs.length = 2) (h : fs_stages rs fu post) : b_stages ⟨fun g => post (.val .none) g.fu, fun r g => post r g.fu, fun _ => False, fun _ => False⟩ (ent N_stages rs fu) := by
  obtain ⟨n, d, c, rfl, hn, hc, h⟩ := h
  simp only [↓dSeq, ↓dAsg, ↓dSetL, ↓dNext, ↓dIfS, ↓dRet, ↓dRetL, ↓dDrop, ↓dNever, ↓dBrk, ↓dCnt, ↓dAug, ↓dPar, ↓dPar3, ↓dParL, ↓dApp, ↓dExt, ↓dVar, ↓dC, ↓dBin, ↓fI, ↓fI0, ↓fAdd, ↓fEq, ↓fNe, ↓fIn, ↓dTest, ↓dAndT, ↓dOrT, ↓dNotT, ↓dAndV, ↓dOrV, ↓dNotV, ↓dIf, ↓dNeg, ↓dIsN, ↓dChain, ↓dNil, ↓dCons, ↓dTup, ↓dLst, ↓dFz, ↓valsD, ↓dIx, ↓dCall, ↓dCallL, ↓hasSrc, ↓rrv, ↓dN, ↓dT, ↓dTn, ↓dTc, ↓rsv, ↓Gs.set, ↓dFor, ↓dItems, ↓dRange1, ↓dRange2, ↓dZip, ↓dRev, ↓dLc, ↓dCB, ↓cLen, ↓cAll, ↓cTuple, ↓cInt, ↓cInt1, ↓cInt2, ↓dIsi, ↓dBits, ↓dSetS, ↓dCallS, ↓oSub, ↓oAddI, ↓oMul, ↓oDiv, ↓oMod, ↓oShl, ↓oShr, ↓oPow, ↓oAnd, ↓oLt, ↓oLe, ↓oGt, ↓oGe, ↓oAbs, ↓oMax, ↓oMin, ↓dCallK, ↓cRepr, ↓cSum, ↓cMinL, ↓cMaxL, ↓cSorted, ↓cSortedD, ↓cList, ↓dListR, ↓fInD, ↓fMulL, ↓dSl, ↓oNo, ↓oSo, ↓dBy, b_stages, fs_check_number, fs_check_chain, ent, svOf, List.map_cons, List.map_nil, List.cons_append, List.nil_append, List.append_nil, List.replicate, List.length_cons, List.length_nil, List.getElem?_cons_zero, List.getElem?_cons_succ, List.getElem?_nil, List.set_cons_zero, List.set_cons_succ, Option.map_some, Option.map_none, Option.isNone_some, Option.isNone_none, forall_const, true_implies, false_implies, and_true, true_and, Bool.true_eq_false, Bool.false_eq_true, reduceCtorEq, noOwn, wipeS, hide, fuN_self, lcD, dYes, Nat.zero_add, Nat.reduceAdd, Nat.reduceLeDiff, Nat.reduceSub, atI_0, atI_1, atI_2, atI_3, atI_4, atI_5, Int.one_mul, eqv_ii, eqv_ss, eqv_num, shaped_int, shaped_num, shaped_none, shaped_ru, flat_str, flat_int, flat_none, List.all_cons, List.all_nil, Bool.and_true, decide_eq_true_eq, decide_eq_false_iff_not, Bool.not_eq_true', Bool.not_eq_false', Decidable.not_not, ↓reduceIte, Bool.false_eq_true, Int.reduceLT, eqv_strs, pick_0, pick_01, pick_10, pick_012, pick_021, pick_102, pick_120, pick_201, pick_210]
  refine ⟨_, rfl, hn.is, _, rfl, hc.is, ?_⟩
  unfold chD
  simp only [↓dSeq, ↓dAsg, ↓dSetL, ↓dNext, ↓dIfS, ↓dRet, ↓dRetL, ↓dDrop, ↓dNever, ↓dBrk, ↓dCnt, ↓dAug, ↓dPar, ↓dPar3, ↓dParL, ↓dApp, ↓dExt, ↓dVar, ↓dC, ↓dBin, ↓fI, ↓fI0, ↓fAdd, ↓fEq, ↓fNe, ↓fIn, ↓dTest, ↓dAndT, ↓dOrT, ↓dNotT, ↓dAndV, ↓dOrV, ↓dNotV, ↓dIf, ↓dNeg, ↓dIsN, ↓dChain, ↓dNil, ↓dCons, ↓dTup, ↓dLst, ↓dFz, ↓valsD, ↓dIx, ↓dCall, ↓dCallL, ↓hasSrc, ↓rrv, ↓dN, ↓dT, ↓dTn, ↓dTc, ↓rsv, ↓Gs.set, ↓dFor, ↓dItems, ↓dRange1, ↓dRange2, ↓dZip, ↓dRev, ↓dLc, ↓dCB, ↓cLen, ↓cAll, ↓cTuple, ↓cInt, ↓cInt1, ↓cInt2, ↓dIsi, ↓dBits, ↓dSetS, ↓dCallS, ↓oSub, ↓oAddI, ↓oMul, ↓oDiv, ↓oMod, ↓oShl, ↓oShr, ↓oPow, ↓oAnd, ↓oLt, ↓oLe, ↓oGt, ↓oGe, ↓oAbs, ↓oMax, ↓oMin, ↓dCallK, ↓cRepr, ↓cSum, ↓cMinL, ↓cMaxL, ↓cSorted, ↓cSortedD, ↓cList, ↓dListR, ↓fInD, ↓fMulL, ↓dSl, ↓oNo, ↓oSo, ↓dBy, ent, svOf, List.map_cons, List.map_nil, List.cons_append, List.nil_append, List.append_nil, List.replicate, List.length_cons, List.length_nil, List.getElem?_cons_zero, List.getElem?_cons_succ, List.getElem?_nil, List.set_cons_zero, List.set_cons_succ, Option.map_some, Option.map_none, Option.isNone_some, Option.isNone_none, forall_const, true_implies, false_implies, and_true, true_and, Bool.true_eq_false, Bool.false_eq_true, reduceCtorEq, noOwn, wipeS, hide, fuN_self, lcD, dYes, Nat.zero_add, Nat.reduceAdd, Nat.reduceLeDiff, Nat.reduceSub, atI_0, atI_1, atI_2, atI_3, atI_4, atI_5, Int.one_mul, eqv_ii, eqv_ss, eqv_num, shaped_int, shaped_num, shaped_none, shaped_ru, flat_str, flat_int, flat_none, List.all_cons, List.all_nil, Bool.and_true, decide_eq_true_eq, decide_eq_false_iff_not, Bool.not_eq_true', Bool.not_eq_false', Decidable.not_not, ↓reduceIte, Bool.false_eq_true, Int.reduceLT, eqv_strs, pick_0, pick_01, pick_10, pick_012, pick_021, pick_102, pick_120, pick_201, pick_210]
  refine p_stgB hc.w hn (by have := hc.len; simp; omega) fun n' d' y z => ?_
  simp only [↓dSeq, ↓dAsg, ↓dSetL, ↓dNext, ↓dIfS, ↓dRet, ↓dRetL, ↓dDrop, ↓dNever, ↓dBrk, ↓dCnt, ↓dAug, ↓dPar, ↓dPar3, ↓dParL, ↓dApp, ↓dExt, ↓dVar, ↓dC, ↓dBin, ↓fI, ↓fI0, ↓fAdd, ↓fEq, ↓fNe, ↓fIn, ↓dTest, ↓dAndT, ↓dOrT, ↓dNotT, ↓dAndV, ↓dOrV, ↓dNotV, ↓dIf, ↓dNeg, ↓dIsN, ↓dChain, ↓dNil, ↓dCons, ↓dTup, ↓dLst, ↓dFz, ↓valsD, ↓dIx, ↓dCall, ↓dCallL, ↓hasSrc, ↓rrv, ↓dN, ↓dT, ↓dTn, ↓dTc, ↓rsv, ↓Gs.set, ↓dFor, ↓dItems, ↓dRange1, ↓dRange2, ↓dZip, ↓dRev, ↓dLc, ↓dCB, ↓cLen, ↓cAll, ↓cTuple, ↓cInt, ↓cInt1, ↓cInt2, ↓dIsi, ↓dBits, ↓dSetS, ↓dCallS, ↓oSub, ↓oAddI, ↓oMul, ↓oDiv, ↓oMod, ↓oShl, ↓oShr, ↓oPow, ↓oAnd, ↓oLt, ↓oLe, ↓oGt, ↓oGe, ↓oAbs, ↓oMax, ↓oMin, ↓dCallK, ↓cRepr, ↓cSum, ↓cMinL, ↓cMaxL, ↓cSorted, ↓cSortedD, ↓cList, ↓dListR, ↓fInD, ↓fMulL, ↓dSl, ↓oNo, ↓oSo, ↓dBy, ent, svOf, List.map_cons, List.map_nil, List.cons_append, List.nil_append, List.append_nil, List.replicate, List.length_cons, List.length_nil, List.getElem?_cons_zero, List.getElem?_cons_succ, List.getElem?_nil, List.set_cons_zero, List.set_cons_succ, Option.map_some, Option.map_none, Option.isNone_some, Option.isNone_none, forall_const, true_implies, false_implies, and_true, true_and, Bool.true_eq_false, Bool.false_eq_true, reduceCtorEq, noOwn, wipeS, hide, fuN_self, lcD, dYes, Nat.zero_add, Nat.reduceAdd, Nat.reduceLeDiff, Nat.reduceSub, atI_0, atI_1, atI_2, atI_3, atI_4, atI_5, Int.one_mul, eqv_ii, eqv_ss, eqv_num, shaped_int, shaped_num, shaped_none, shaped_ru, flat_str, flat_int, flat_none, List.all_cons, List.all_nil, Bool.and_true, decide_eq_true_eq, decide_eq_false_iff_not, Bool.not_eq_true', Bool.not_eq_false', Decidable.not_not, ↓reduceIte, Bool.false_eq_true, Int.reduceLT, eqv_strs, pick_0, pick_01, pick_10, pick_012, pick_021, pick_102, pick_120, pick_201, pick_210]
  exact h
section
variable {P : Program} {w : World} {K : Fg} {mg : Str → Option Value} {base : Heap}
theorem d_stages (T : Tx w K mg) {cdv : Value} {A : Around} {outer : List Env} {s : Shared} {H : Hp} {E : XK} (hr : Room 5 (A.deeper (envOfC "stages" (defScope st_stages) s.heap.objs.size T.f_stages cdv))) (hgd : (A.deeper (envOfC "stages" (defScope st_stages) s.heap.objs.size T.f_stages cdv)).guards = some []) :
    PSs (cxOf CX0 P w K mg base N_stages "stages" (defScope st_stages) T.f_stages cdv A outer s H E).nox (defBody st_stages) (upS K b_stages) :=
  (ss_cons (s_expr (e_call (ok_check_number T) (hr.mono (by decide)) hgd (by rfl) T.g_check_number T.F_check_number.kp T.b_check_number pass0 (a_cons (e_var 0 (pv 0)) a_nil)))
    (ss_cons (s_expr (e_call (ok_check_chain T) (hr.mono (by decide)) hgd (by rfl) T.g_check_chain T.F_check_chain.kp T.b_check_chain pass0 (a_cons (e_var 1 (pv 1)) a_nil)))
    (ss_cons (s_setL (i := 2) sc_stages.nd rfl (.inl rfl) (e_lstL a_nil))
    (ss_cons (s_for PassesOwn.never rfl (i_items (e_var 1 (pv 1))) (g_tup rfl (gs_cons (g_name (pg_name (i := 3) sc_stages.nd rfl (.inl rfl))) (gs_cons (g_name (pg_name (i := 4) sc_stages.nd rfl (.inl rfl))) gs_nil))) (ss_cons (s_set (i := 0) sc_stages.nd rfl (.inl rfl) (e_call (ok_round_once T) (hr.mono (by decide)) hgd (by rfl) T.g_round_once T.F_round_once.kp T.b_round_once pass0 (a_cons (e_var 0 (pv 0)) (a_cons (e_var 3 (pv 3)) (a_cons (e_var 4 (pv 4)) a_nil)))))
    (ss_one (s_app (name := "x") (pv 2) (e_var 0 (pv 0)) (fun h => pe_bm PySem.F.plainAttrs_list PySem.F.slot_list_append PySem.F.type_list_append mt_append (pv 2) h)))))
    (ss_one (s_ret (e_tuple (by rfl) T.n_tuple (a_cons (e_var 2 (pv 2)) a_nil))))))))
theorem ok_stages (T : Tx w K mg) : Fn P w K mg base CX0 6 T.f_stages T.fd_stages ["number", "chain"] (lift K 2 fs_stages) := fn_data T.F_stages sc_stages b_stages (fun _ _ _ _ _ _ hr hgd => d_stages T hr hgd) p_stages
end
--@@ applied
def b_applied : DS :=
  (dRet (dIx (dCall 2 fs_stages (dCons (dVar 0) (dCons (dVar 1) dNil))) (dNeg (dC (.int 1)))))
theorem stag_last : ∀ {c : List (Int × Ru)} {n d : Int}, c ≠ [] → (stagI n d c).getLast? = some (applI n d c)
  | [], _, _, h => absurd rfl h
  | [s], n, d, _ => by
    rw [stagI, stagI, applI, applI]
    rfl
  | s :: t :: c, n, d, _ => by
    have := stag_last (c := t :: c) (n := (roundI n d s.1 s.2).1) (d := (roundI n d s.1 s.2).2) (by simp)
    rw [stagI, applI, ← this, stagI, List.getLast?_cons_cons]
theorem atI_last {α : Type} {xs : List α} {x : α} (h : xs.getLast? = some x) : atI xs (-1) = some x := by
  have h0 : xs ≠ [] := fun e => by subst e; cases h
  have hl : 0 < xs.length := List.length_pos_iff.mpr h0
  have e : ixN xs.length (-1) = some (xs.length - 1) := by
    unfold ixN
    rw [if_neg (by decide), if_pos (by omega)]
    congr 1
    omega
  unfold atI
  rw [e]
  rw [List.getLast?_eq_getElem?] at h
  exact h
def fs_applied : FSp := fun rs fu post => ∃ (n d : Int) (c : List (Int × Ru)), rs = [.val (num n d), .val (chD c)] ∧ NuB 1000 n d ∧ Chn1 c ∧ post (.val (nm (applI n d c))) fu
theorem p_applied (rs : List Rv) (fu : Option Nat) (post : Rr → Option Nat → Prop) (hl : rs.length = 2) (h : fs_applied rs fu post) : b_applied ⟨fun g => post (.val .none) g.fu, fun r g => post r g.fu, fun _ => False, fun _ => False⟩ (ent N_applied rs fu) := by
  obtain ⟨n, d, c, rfl, hn, hc, h⟩ := h
  simp only [↓dSeq, ↓dAsg, ↓dSetL, ↓dNext, ↓dIfS, ↓dRet, ↓dRetL, ↓dDrop, ↓dNever, ↓dBrk, ↓dCnt, ↓dAug, ↓dPar, ↓dPar3, ↓dParL, ↓dApp, ↓dExt, ↓dVar, ↓dC, ↓dBin, ↓fI, ↓fI0, ↓fAdd, ↓fEq, ↓fNe, ↓fIn, ↓dTest, ↓dAndT, ↓dOrT, ↓dNotT, ↓dAndV, ↓dOrV, ↓dNotV, ↓dIf, ↓dNeg, ↓dIsN, ↓dChain, ↓dNil, ↓dCons, ↓dTup, ↓dLst, ↓dFz, ↓valsD, ↓dIx, ↓dCall, ↓dCallL, ↓hasSrc, ↓rrv, ↓dN, ↓dT, ↓dTn, ↓dTc, ↓rsv, ↓Gs.set, ↓dFor, ↓dItems, ↓dRange1, ↓dRange2, ↓dZip, ↓dRev, ↓dLc, ↓dCB, ↓cLen, ↓cAll, ↓cTuple, ↓cInt, ↓cInt1, ↓cInt2, ↓dIsi, ↓dBits, ↓dSetS, ↓dCallS, ↓oSub, ↓oAddI, ↓oMul, ↓oDiv, ↓oMod, ↓oShl, ↓oShr, ↓oPow, ↓oAnd, ↓oLt, ↓oLe, ↓oGt, ↓oGe, ↓oAbs, ↓oMax, ↓oMin, ↓dCallK, ↓cRepr, ↓cSum, ↓cMinL, ↓cMaxL, ↓cSorted, ↓cSortedD, ↓cList, ↓dListR, ↓fInD, ↓fMulL, ↓dSl, ↓oNo, ↓oSo, ↓dBy, b_applied, fs_stages, ent, svOf, List.map_cons, List.map_nil, List.cons_append, List.nil_append, List.append_nil, List.replicate, List.length_cons, List.length_nil, List.getElem?_cons_zero, List.getElem?_cons_succ, List.getElem?_nil, List.set_cons_zero, List.set_cons_succ, Option.map_some, Option.map_none, Option.isNone_some, Option.isNone_none, forall_const, true_implies, false_implies, and_true, true_and, Bool.true_eq_false, Bool.false_eq_true, reduceCtorEq, noOwn, wipeS, hide, fuN_self, lcD, dYes, Nat.zero_add, Nat.reduceAdd, Nat.reduceLeDiff, Nat.reduceSub, atI_0, atI_1, atI_2, atI_3, atI_4, atI_5, Int.one_mul, eqv_ii, eqv_ss, eqv_num, shaped_int, shaped_num, shaped_none, shaped_ru, flat_str, flat_int, flat_none, List.all_cons, List.all_nil, Bool.and_true, decide_eq_true_eq, decide_eq_false_iff_not, Bool.not_eq_true', Bool.not_eq_false', Decidable.not_not, ↓reduceIte, Bool.false_eq_true, Int.reduceLT, eqv_strs, pick_0, pick_01, pick_10, pick_012, pick_021, pick_102, pick_120, pick_201, pick_210]
  refine ⟨n, d, c, rfl, hn, hc, ?_⟩
  have e : atI (stagD n d c) (-1) = some (nm (applI n d c)) := by
    refine atI_last ?_
    unfold stagD
    rw [List.getLast?_map, stag_last hc.ne]
    rfl
  show match atI (stagD n d c) (-1) with | some z => _ | none => _
  rw [e]
  exact h
section
variable {P : Program} {w : World} {K : Fg} {mg : Str → Option Value} {base : Heap}
theorem d_applied (T : Tx w K mg) {cdv : Value} {A : Around} {outer : List Env} {s : Shared} {H : Hp} {E : XK} (hr : Room 6 (A.deeper (envOfC "applied" (defScope st_applied) s.heap.objs.size T.f_applied cdv))) (hgd : (A.deeper (envOfC "applied" (defScope st_applied) s.heap.objs.size T.f_applied cdv)).guards = some []) :
    PSs (cxOf CX0 P w K mg base N_applied "applied" (defScope st_applied) T.f_applied cdv A outer s H E).nox (defBody st_applied) (upS K b_applied) :=
  (ss_one (s_ret (e_ix (e_call (ok_stages T) (hr.mono (by decide)) hgd (by rfl) T.g_stages T.F_stages.kp T.b_stages pass0 (a_cons (e_var 0 (pv 0)) (a_cons (e_var 1 (pv 1)) a_nil))) (e_neg e_int))))
theorem ok_applied (T : Tx w K mg) : Fn P w K mg base CX0 7 T.f_applied T.fd_applied ["number", "chain"] (lift K 2 fs_applied) := fn_data T.F_applied sc_applied b_applied (fun _ _ _ _ _ _ hr hgd => d_applied T hr hgd) p_applied
end
--@@ _law_source
def b__law_source : DS :=
  (dSeq (dAsg (dIf (dTest (dBin oLt (dVar 1) (dCB cLen (dCons (dVar 0) dNil)))) (dIx (dVar 0) (dVar 1)) (dC (.int 0))) (dN 2))
  (dSeq (dAsg (dIf (dTest (dBin oGe (dCB oAbs (dCons (dVar 2) dNil)) (dBin oPow (dC (.int 10)) (dC (.int 18))))) (dBin oMod (dCB oAbs (dCons (dVar 2) dNil)) (dBin oPow (dBin oPow (dC (.int 10)) (dC (.int 60))) (dC (.int 4)))) (dC (.int 0))) (dN 3))
  (dRetL (dLst (dCons (dVar 3) (dCons (dBin oMod (dBin fAdd (dBin fAdd (dBin oMul (dBin oMod (dVar 2) (dC (.int 2305843009213693951))) (dC (.int 1000003))) (dBin oMul (dBin oMul (dC (.int 7919)) (dVar 1)) (dVar 1))) (dC (.int 97))) (dC (.int 2305843009213693921))) (dCons (dC (.int 0)) dNil)))))))
def fs__law_source : FSp := fun rs fu post => ∃ (ns : List Int) (k : Int), rs = [.scr ns, .val (.int k)] ∧ 0 ≤ k ∧ k < 1000000 ∧ ∀ x y : Int, 0 ≤ x → x < 2 ^ 1000 → 0 ≤ y → y < modS → post (.own [.int x, .int y, .int 0]) fu
theorem atI_nn {ns : List Int} {k : Int} (h0 : 0 ≤ k) (h : k < ns.length) : ∃ z, atI ns k = some z := by
  unfold atI ixN
  rw [if_pos h0, if_pos h]
  exact ⟨_, List.getElem?_eq_getElem (show k.toNat < ns.length by omega)⟩
theorem pw1 : CPowX 10 18 := ⟨by decide, by decide +kernel⟩
theorem pw2 : CPowX 10 60 := ⟨by decide, by decide +kernel⟩
theorem pw3 : CPowX (10 ^ Int.toNat 60) 4 := ⟨by decide, by decide +kernel⟩
theorem pw4 : (0 : Int) < (10 ^ Int.toNat 60) ^ Int.toNat 4 := by decide +kernel
theorem pw5 : ((10 : Int) ^ Int.toNat 60) ^ Int.toNat 4 ≤ 2 ^ 1000 := by decide +kernel
theorem src_fin {fu : Option Nat} {post : Rr → Option Nat → Prop} {z k : Int} (h1 : 0 ≤ k) (h2 : k < 1000000) (h : ∀ x y : Int, 0 ≤ x → x < 2 ^ 1000 → 0 ≤ y → y < modS → post (.own [.int x, .int y, .int 0]) fu) :
    CMulX (z % 2305843009213693951) 1000003 ∧ CMulX 7919 k ∧ CMulX (7919 * k) k ∧ ∀ x : Int, 0 ≤ x → x < 2 ^ 1000 → post (.own [.int x, .int ((z % 2305843009213693951 * 1000003 + 7919 * k * k + 97) % 2305843009213693921), .int 0]) fu := by
  have a1 := Int.emod_nonneg z (show (2305843009213693951 : Int) ≠ 0 by decide)
  have a2 := Int.emod_lt_of_pos z (show (0 : Int) < 2305843009213693951 by decide)
  refine ⟨mulX 64 64 (Bn.small (by omega) (by omega) (by decide)) (Bn.small (by decide) (by decide) (by decide)) (by decide), mulX 64 64 (Bn.small (by decide) (by decide) (by decide)) (Bn.small (by omega) (by omega) (by decide)) (by decide),
    mulX 64 64 (Bn.small (by omega) (by omega) (by decide)) (Bn.small (by omega) (by omega) (by decide)) (by decide), fun x x0 x1 => h x _ x0 x1 (Int.emod_nonneg _ (by decide)) (Int.emod_lt_of_pos _ (by decide))⟩
/-- the body behind its first statement -/
def srcT : DS := (dSeq (dAsg (dIf (dTest (dBin oGe (dCB oAbs (dCons (dVar 2) dNil)) (dBin oPow (dC (.int 10)) (dC (.int 18))))) (dBin oMod (dCB oAbs (dCons (dVar 2) dNil)) (dBin oPow (dBin oPow (dC (.int 10)) (dC (.int 60))) (dC (.int 4)))) (dC (.int 0))) (dN 3))
  (dRetL (dLst (dCons (dVar 3) (dCons (dBin oMod (dBin fAdd (dBin fAdd (dBin oMul (dBin oMod (dVar 2) (dC (.int 2305843009213693951))) (dC (.int 1000003))) (dBin oMul (dBin oMul (dC (.int 7919)) (dVar 1)) (dVar 1))) (dC (.int 97))) (dC (.int 2305843009213693921))) (dCons (dC (.int 0)) dNil))))))
def srcB : DS := (dSeq (dAsg (dIf (dTest (dBin oLt (dVar 1) (dCB cLen (dCons (dVar 0) dNil)))) (dIx (dVar 0) (dVar 1)) (dC (.int 0))) (dN 2)) srcT)
theorem p_srcT (z : Int) (fu : Option Nat) (post : Rr → Option Nat → Prop) {ns : List Int} {k : Int} (h1 : 0 ≤ k) (h2 : k < 1000000) (h : ∀ x y : Int, 0 ≤ x → x < 2 ^ 1000 → 0 ≤ y → y < modS → post (.own [.int x, .int y, .int 0]) fu) : srcT ⟨fun g => post (.val .none) g.fu, fun r g => post r g.fu, fun _ => False, fun _ => False⟩ ⟨[some (.scr ns), some (.val (.int k)), some (.val (.int z)), none], fu, fu.isNone⟩ := by
  have m0 : ∀ a : Int, 0 ≤ a % (10 ^ Int.toNat 60) ^ Int.toNat 4 ∧ a % (10 ^ Int.toNat 60) ^ Int.toNat 4 < 2 ^ 1000 := fun a => ⟨Int.emod_nonneg _ (Int.ne_of_gt pw4), Int.lt_of_lt_of_le (Int.emod_lt_of_pos _ pw4) pw5⟩
  have p0 : (0 : Int) < 2 ^ 1000 := pow2_pos _
  simp only [↓dSeq, ↓dAsg, ↓dSetL, ↓dNext, ↓dIfS, ↓dRet, ↓dRetL, ↓dDrop, ↓dNever, ↓dBrk, ↓dCnt, ↓dAug, ↓dPar, ↓dPar3, ↓dParL, ↓dApp, ↓dExt, ↓dVar, ↓dC, ↓dBin, ↓fI, ↓fI0, ↓fAdd, ↓fEq, ↓fNe, ↓fIn, ↓dTest, ↓dAndT, ↓dOrT, ↓dNotT, ↓dAndV, ↓dOrV, ↓dNotV, ↓dIf, ↓dNeg, ↓dIsN, ↓dChain, ↓dNil, ↓dCons, ↓dTup, ↓dLst, ↓dFz, ↓valsD, ↓dIx, ↓dCall, ↓dCallL, ↓hasSrc, ↓rrv, ↓dN, ↓dT, ↓dTn, ↓dTc, ↓rsv, ↓Gs.set, ↓dFor, ↓dItems, ↓dRange1, ↓dRange2, ↓dZip, ↓dRev, ↓dLc, ↓dCB, ↓cLen, ↓cAll, ↓cTuple, ↓cInt, ↓cInt1, ↓cInt2, ↓dIsi, ↓dBits, ↓dSetS, ↓dCallS, ↓oSub, ↓oAddI, ↓oMul, ↓oDiv, ↓oMod, ↓oShl, ↓oShr, ↓oPow, ↓oAnd, ↓oLt, ↓oLe, ↓oGt, ↓oGe, ↓oAbs, ↓oMax, ↓oMin, ↓dCallK, ↓cRepr, ↓cSum, ↓cMinL, ↓cMaxL, ↓cSorted, ↓cSortedD, ↓cList, ↓dListR, ↓fInD, ↓fMulL, ↓dSl, ↓oNo, ↓oSo, ↓dBy, srcT, ent, svOf, List.map_cons, List.map_nil, List.cons_append, List.nil_append, List.append_nil, List.replicate, List.length_cons, List.length_nil, List.getElem?_cons_zero, List.getElem?_cons_succ, List.getElem?_nil, List.set_cons_zero, List.set_cons_succ, Option.map_some, Option.map_none, Option.isNone_some, Option.isNone_none, forall_const, true_implies, false_implies, and_true, true_and, Bool.true_eq_false, Bool.false_eq_true, reduceCtorEq, noOwn, wipeS, hide, fuN_self, lcD, dYes, Nat.zero_add, Nat.reduceAdd, Nat.reduceLeDiff, Nat.reduceSub, atI_0, atI_1, atI_2, atI_3, atI_4, atI_5, Int.one_mul, eqv_ii, eqv_ss, eqv_num, shaped_int, shaped_num, shaped_none, shaped_ru, flat_str, flat_int, flat_none, List.all_cons, List.all_nil, Bool.and_true, decide_eq_true_eq, decide_eq_false_iff_not, Bool.not_eq_true', Bool.not_eq_false', Decidable.not_not, ↓reduceIte, Bool.false_eq_true, Int.reduceLT, eqv_strs, pick_0, pick_01, pick_10, pick_012, pick_021, pick_102, pick_120, pick_201, pick_210]
  obtain ⟨f1, f2, f3, f4⟩ := src_fin (z := z) h1 h2 h
  exact ⟨pw1, fun _ => ⟨pw2, pw3, pw4, f1, f2, f3, f4 _ (m0 _).1 (m0 _).2⟩, fun _ => ⟨f1, f2, f3, f4 0 (Int.le_refl 0) p0⟩⟩
theorem p_srcB (fu : Option Nat) (post : Rr → Option Nat → Prop) {ns : List Int} {k : Int} (h1 : 0 ≤ k) (h2 : k < 1000000) (h : ∀ x y : Int, 0 ≤ x → x < 2 ^ 1000 → 0 ≤ y → y < modS → post (.own [.int x, .int y, .int 0]) fu) : srcB ⟨fun g => post (.val .none) g.fu, fun r g => post r g.fu, fun _ => False, fun _ => False⟩ (ent N__law_source [.scr ns, .val (.int k)] fu) := by
  simp only [↓dSeq, ↓dAsg, ↓dSetL, ↓dNext, ↓dIfS, ↓dRet, ↓dRetL, ↓dDrop, ↓dNever, ↓dBrk, ↓dCnt, ↓dAug, ↓dPar, ↓dPar3, ↓dParL, ↓dApp, ↓dExt, ↓dVar, ↓dC, ↓dBin, ↓fI, ↓fI0, ↓fAdd, ↓fEq, ↓fNe, ↓fIn, ↓dTest, ↓dAndT, ↓dOrT, ↓dNotT, ↓dAndV, ↓dOrV, ↓dNotV, ↓dIf, ↓dNeg, ↓dIsN, ↓dChain, ↓dNil, ↓dCons, ↓dTup, ↓dLst, ↓dFz, ↓valsD, ↓dIx, ↓dCall, ↓dCallL, ↓hasSrc, ↓rrv, ↓dN, ↓dT, ↓dTn, ↓dTc, ↓rsv, ↓Gs.set, ↓dFor, ↓dItems, ↓dRange1, ↓dRange2, ↓dZip, ↓dRev, ↓dLc, ↓dCB, ↓cLen, ↓cAll, ↓cTuple, ↓cInt, ↓cInt1, ↓cInt2, ↓dIsi, ↓dBits, ↓dSetS, ↓dCallS, ↓oSub, ↓oAddI, ↓oMul, ↓oDiv, ↓oMod, ↓oShl, ↓oShr, ↓oPow, ↓oAnd, ↓oLt, ↓oLe, ↓oGt, ↓oGe, ↓oAbs, ↓oMax, ↓oMin, ↓dCallK, ↓cRepr, ↓cSum, ↓cMinL, ↓cMaxL, ↓cSorted, ↓cSortedD, ↓cList, ↓dListR, ↓fInD, ↓fMulL, ↓dSl, ↓oNo, ↓oSo, ↓dBy, srcB, ent, svOf, List.map_cons, List.map_nil, List.cons_append, List.nil_append, List.append_nil, List.replicate, List.length_cons, List.length_nil, List.getElem?_cons_zero, List.getElem?_cons_succ, List.getElem?_nil, List.set_cons_zero, List.set_cons_succ, Option.map_some, Option.map_none, Option.isNone_some, Option.isNone_none, forall_const, true_implies, false_implies, and_true, true_and, Bool.true_eq_false, Bool.false_eq_true, reduceCtorEq, noOwn, wipeS, hide, fuN_self, lcD, dYes, Nat.zero_add, Nat.reduceAdd, Nat.reduceLeDiff, Nat.reduceSub, atI_0, atI_1, atI_2, atI_3, atI_4, atI_5, Int.one_mul, eqv_ii, eqv_ss, eqv_num, shaped_int, shaped_num, shaped_none, shaped_ru, flat_str, flat_int, flat_none, List.all_cons, List.all_nil, Bool.and_true, decide_eq_true_eq, decide_eq_false_iff_not, Bool.not_eq_true', Bool.not_eq_false', Decidable.not_not, ↓reduceIte, Bool.false_eq_true, Int.reduceLT, eqv_strs, pick_0, pick_01, pick_10, pick_012, pick_021, pick_102, pick_120, pick_201, pick_210]
  refine ⟨fun hk => ?_, fun hk => p_srcT 0 fu post h1 h2 h⟩
  obtain ⟨z, ez⟩ := atI_nn h1 hk
  rw [ez]
  exact p_srcT z fu post h1 h2 h
theorem p__law_source (rs : List Rv) (fu : Option Nat) (post : Rr → Option Nat → Prop) (hl : rs.length = 2) (h : fs__law_source rs fu post) : b__law_source ⟨fun g => post (.val .none) g.fu, fun r g => post r g.fu, fun _ => False, fun _ => False⟩ (ent N__law_source rs fu) := by
  obtain ⟨ns, k, rfl, h1, h2, h⟩ := h
  exact p_srcB fu post h1 h2 h
section
variable {P : Program} {w : World} {K : Fg} {mg : Str → Option Value} {base : Heap}
theorem d__law_source (T : Tx w K mg) {cdv : Value} {A : Around} {outer : List Env} {s : Shared} {H : Hp} {E : XK} (hr : Room 0 (A.deeper (envOfC "_law_source" (defScope st__law_source) s.heap.objs.size T.f__law_source cdv))) (hgd : (A.deeper (envOfC "_law_source" (defScope st__law_source) s.heap.objs.size T.f__law_source cdv)).guards = some []) :
    PSs (cxOf CX0 P w K mg base N__law_source "_law_source" (defScope st__law_source) T.f__law_source cdv A outer s H E).nox (defBody st__law_source) (upS K b__law_source) :=
  (ss_cons (s_set (i := 2) sc__law_source.nd rfl (.inl rfl) (e_if (t_lt (e_var 1 (pv 1)) (e_len (by rfl) T.n_len (a_cons (e_var 0 (pv 0)) a_nil))) (e_ix (e_var 0 (pv 0)) (e_var 1 (pv 1))) e_int))
    (ss_cons (s_set (i := 3) sc__law_source.nd rfl (.inl rfl) (e_if (t_ge (e_abs (by rfl) T.n_abs (a_cons (e_var 2 (pv 2)) a_nil)) (e_pow e_int e_int)) (e_mod (e_abs (by rfl) T.n_abs (a_cons (e_var 2 (pv 2)) a_nil)) (e_pow (e_pow e_int e_int) e_int)) e_int))
    (ss_one (s_retL (e_lstL (a_cons (e_var 3 (pv 3)) (a_cons (e_mod (e_add (e_add (e_mul (e_mod (e_var 2 (pv 2)) e_int) e_int) (e_mul (e_mul e_int (e_var 1 (pv 1))) (e_var 1 (pv 1)))) e_int) e_int) (a_cons e_int a_nil))))))))
theorem ok__law_source (T : Tx w K mg) : Fn P w K mg base CX0 1 T.f__law_source T.fd__law_source ["_law_script", "_law_k"] (lift K 2 fs__law_source) := fn_data T.F__law_source sc__law_source b__law_source (fun _ _ _ _ _ _ hr hgd => d__law_source T hr hgd) p__law_source
end
--@@ _law_draw

/-- a draw: some int below the size, one draw less left -/
def fs__law_draw : FSp := fun rs fu post => ∃ (n : Int) (m : Nat), rs = [.src, .val (.int n)] ∧ fu = some (m + 1) ∧ 0 < n ∧ Bn 9000 n ∧ ∀ i : Int, 0 ≤ i → i < n → post (.val (.int i)) (some m)
theorem at3_0 {x y z : V} : atI [x, y, z] 0 = some x := atI_0
theorem at3_1 {x y z : V} : atI [x, y, z] 1 = some y := atI_1
theorem at3_2 {x y z : V} : atI [x, y, z] 2 = some z := atI_2
section
variable {P : Program} {w : World} {K : Fg} {mg : Str → Option Value} {base : Heap}
/-- behind the draw: all but the source is as it was -/
theorem draw_out {F H : Hp} {a : Addr} {m : Nat} {x y z i : Int} {o : HO} (e : Ex F H) (hF : F a = none) (hH : H a = some o) (hx : 0 ≤ x ∧ x < 2 ^ 1000 ∧ 0 ≤ y ∧ y < modS ∧ 0 ≤ z ∧ z + m ≤ 2 ^ 40) :
    Out K F H a (some (m + 1)) (some m) F (upd H a (.lst [.int x, .int y, .int z])) (.int i) (.val (.int i)) := by
  refine ⟨Ex.refl F, fun b u q => ?_, fun b u hb q => ?_, fun b q => .inl q, fun _ => ⟨m, rfl, hF, x, y, z, upd_same, hx⟩, Rp.int i⟩
  · rw [upd_ne (fun h => by rw [h, hF] at q; cases q)]; exact e b u q
  · rw [upd_ne (hb (fun h => nomatch h))]; exact q
theorem ok__law_draw (T : Tx w K mg) : Fn P w K mg base CX0 1 T.f__law_draw T.fd__law_draw ["_law_source_here", "_law_size"] (lift K 2 fs__law_draw) := by
  refine fn_by T.F__law_draw sc__law_draw lift_len fun cdv A outer s H vs Q E hr hg h => ?_
  obtain ⟨F, a, rs, fu, post, e, tm, hlen, hsrc, ⟨n, m, rfl, rfl, n0, nB, hp⟩, hq⟩ := h
  obtain ⟨hF, x, y, z, hH, x0, x1, y0, y1, z0, z1⟩ := hsrc (m + 1) rfl
  have hv : vs = [.ref a, .int n] := by
    cases tm with
    | cons h1 t =>
      cases t.i1
      rw [h1.1]
  subst hv
  have zB : z < 2 ^ 40 := by omega
  have e40 : (2 : Int) ^ 40 = 1099511627776 := by decide
  rw [e40] at zB z1
  refine ⟨_, PSs.nox (pss_cons (ps_if (pt_cmpR op_gt (pe_ix ix_list (pv 0) pe_int (fun _ _ => rfl)) pe_int (nomark _))
      (pss_cons (ps_set (i := 2) sc__law_draw.nd rfl (.inl rfl) (pe_op op_mod (pe_ix ix_list (pv 0) pe_int (fun _ _ => rfl)) (pv 1)))
      (pss_cons (ps_asg (pe_op op_fdivW (pe_ix ix_list (pv 0) pe_int (fun _ _ => rfl)) (pv 1)) (pg_sub (pv 0) pe_int set_list))
      (pss_one (ps_ret (pv 2))))) pss_nil)
    (pss_cons (ps_asg (pe_op op_add (pe_ix ix_list (pv 0) pe_int (fun _ _ => rfl)) pe_int) (pg_sub (pv 0) pe_int set_list))
    (pss_cons (ps_set (i := 3) sc__law_draw.nd rfl (.inl rfl) (pe_ix ix_list (pv 0) pe_int (fun _ _ => rfl)))
    (pss_cons (ps_set (i := 4) sc__law_draw.nd rfl (.inl rfl) (pe_op op_mod (pe_op op_mulX (pe_op op_add (pe_op op_add (pe_ix ix_list (pv 0) pe_int (fun _ _ => rfl)) (pe_op op_mulX (pe_op op_mulX pe_int (pv 3)) (pv 3))) pe_int) pe_int) pe_int))
    (pss_cons (ps_set (i := 4) sc__law_draw.nd rfl (.inl rfl) (pe_op op_mod (pe_op op_mulX (pv 4) (pe_op op_add (pe_op op_mod (pv 4) pe_int) (pe_op op_mulX pe_int (pv 3)))) pe_int))
    (pss_one (ps_ret (pe_op op_mod (pe_op op_add (pe_op op_fdivW (pv 4) pe_int) (pe_op op_fdivW (pv 4) pe_int)) (pv 1))))))))), ?_⟩
  have sq : SqL K H a [.int x, .int y, .int z] := .inl (.inl hH)
  refine ⟨.ref a, rfl, a, _, 0, _, rfl, rfl, sq, at3_0, x, 0, rfl, rfl, _, rfl, ite2 (fun c => ?_) (fun c => ?_)⟩
  · have c' : 0 < x := of_decide_eq_true c
    refine ⟨.ref a, rfl, a, _, 0, _, rfl, rfl, sq, at3_0, .int n, rfl, x, n, rfl, rfl, n0, ?_⟩
    refine ⟨.ref a, rfl, a, _, 0, _, rfl, rfl, sq, at3_0, .int n, rfl, x, n, rfl, rfl, divX 9000 n0 nB (Nat.le_refl _), ?_⟩
    refine ⟨.ref a, rfl, a, _, 0, 0, rfl, rfl, hH, rfl, .int (x % n), rfl, ?_⟩
    refine hq _ _ _ _ F (hp (x % n) (Int.emod_nonneg _ (by omega)) (Int.emod_lt_of_pos _ n0)) (draw_out (x := x / n) (y := y) (z := z) e hF hH ⟨Int.ediv_nonneg x0 (by omega), ?_, y0, y1, z0, by omega⟩)
    exact Int.lt_of_le_of_lt (Int.ediv_le_self _ x0) x1
  · have hH2 : (upd H a (.lst [.int x, .int y, .int (z + 1)])) a = some (.lst [.int x, .int y, .int (z + 1)]) := upd_same
    have sq2 : SqL K (upd H a (.lst [.int x, .int y, .int (z + 1)])) a [.int x, .int y, .int (z + 1)] := .inl (.inl hH2)
    refine ⟨.ref a, rfl, a, _, 2, _, rfl, rfl, sq, at3_2, z, 1, rfl, rfl, .ref a, rfl, a, _, 2, 2, rfl, rfl, hH, rfl, ?_⟩
    refine ⟨.ref a, rfl, a, _, 2, _, rfl, rfl, sq2, at3_2, ?_⟩
    have y2 : y < 2305843009213693921 := y1
    have zz1 : Bn 64 (z + 1) := Bn.small (by omega) (by omega) (by decide)
    have m1 : Bn 128 (65537 * (z + 1)) := (Bn.small (m := 64) (i := 65537) (by decide) (by decide) (by decide)).mul zz1
    have m2 : Bn 192 (65537 * (z + 1) * (z + 1)) := m1.mul zz1
    have m3 : Bn 194 (y + 65537 * (z + 1) * (z + 1) + 11) := ((Bn.small (m := 192) (i := y) (by omega) (by omega) (by decide)).add m2).add (Bn.small (by decide) (by decide) (by decide))
    refine ⟨.ref a, rfl, a, _, 1, _, rfl, rfl, sq2, at3_1, .int (z + 1), rfl, 65537, z + 1, rfl, rfl, mulX 64 64 (Bn.small (by decide) (by decide) (by decide)) zz1 (by decide), .int (z + 1), rfl, _, _, rfl, rfl, mulX 128 64 m1 zz1 (by decide), _, _, rfl, rfl, _, _, rfl, rfl, _, _, rfl, rfl, mulX 194 64 m3 (Bn.small (by decide) (by decide) (by decide)) (by decide), _, _, rfl, rfl, (show (0 : Int) < 2305843009213693921 by decide), ?_⟩
    dsimp only
    generalize hmx : (y + 65537 * (z + 1) * (z + 1) + 11) * 48271 % 2305843009213693921 = mx
    have mx0 : 0 ≤ mx := by rw [← hmx]; exact Int.emod_nonneg _ (by decide)
    have mx1 : mx < 2305843009213693921 := by rw [← hmx]; exact Int.emod_lt_of_pos _ (by decide)
    have r0 := Int.emod_nonneg mx (show (1000003 : Int) ≠ 0 by decide)
    have r1 := Int.emod_lt_of_pos mx (show (0 : Int) < 1000003 by decide)
    have m4 : Bn 128 (99991 * (z + 1)) := (Bn.small (m := 64) (i := 99991) (by decide) (by decide) (by decide)).mul zz1
    have m5 : Bn 129 (mx % 1000003 + 99991 * (z + 1)) := (Bn.small (m := 128) (by omega) (by omega) (by decide)).add m4
    refine ⟨.int mx, rfl, .int mx, rfl, mx, 1000003, rfl, rfl, (show (0 : Int) < 1000003 by decide), .int (z + 1), rfl, 99991, z + 1, rfl, rfl, mulX 64 64 (Bn.small (by decide) (by decide) (by decide)) zz1 (by decide), _, _, rfl, rfl, _, _, rfl, rfl, mulX 64 129 (Bn.small (by omega) (by omega) (by decide)) m5 (by decide), _, _, rfl, rfl, (show (0 : Int) < 2305843009213693907 by decide), ?_⟩
    dsimp only
    generalize mx * (mx % 1000003 + 99991 * (z + 1)) % 2305843009213693907 = my
    refine ⟨.int my, rfl, my, 97, rfl, rfl, divX 64 (by decide) (Bn.small (by decide) (by decide) (by decide)) (by decide), .int my, rfl, my, 1000033, rfl, rfl, divX 64 (by decide) (Bn.small (by decide) (by decide) (by decide)) (by decide), _, _, rfl, rfl, .int n, rfl, _, n, rfl, rfl, n0, ?_⟩
    exact hq _ _ _ _ F (hp _ (Int.emod_nonneg _ (by omega)) (Int.emod_lt_of_pos _ n0)) (draw_out (x := x) (y := y) (z := z + 1) e hF hH ⟨x0, x1, y0, y1, by omega, by omega⟩)
end
--@@ _law_pick
def b__law_pick : DS :=
  (dRet (dIx (dVar 1) (dCall 2 fs__law_draw (dCons (dVar 0) (dCons (dCB cLen (dCons (dVar 1) dNil)) dNil)))))
theorem atI_mem {α : Type} {xs : List α} {k : Int} (h0 : 0 ≤ k) (h : k < xs.length) : ∃ z ∈ xs, atI xs k = some z := by
  unfold atI ixN
  rw [if_pos h0, if_pos h]
  have hk : k.toNat < xs.length := by omega
  exact ⟨xs[k.toNat], List.getElem_mem hk, List.getElem?_eq_getElem hk⟩
def fs__law_pick : FSp := fun rs fu post => ∃ (xs : List Da) (m : Nat), rs = [.src, .val (.list xs)] ∧ fu = some (m + 1) ∧ 0 < xs.length ∧ xs.length < 1000000 ∧ ∀ v ∈ xs, post (.val v) (some m)
theorem p__law_pick (rs : List Rv) (fu : Option Nat) (post : Rr → Option Nat → Prop) (hl : rs.length = 2) (h : fs__law_pick rs fu post) : b__law_pick ⟨fun g => post (.val .none) g.fu, fun r g => post r g.fu, fun _ => False, fun _ => False⟩ (ent N__law_pick rs fu) := by
  obtain ⟨xs, m, rfl, rfl, h0, h1, h⟩ := h
  simp only [↓dSeq, ↓dAsg, ↓dSetL, ↓dNext, ↓dIfS, ↓dRet, ↓dRetL, ↓dDrop, ↓dNever, ↓dBrk, ↓dCnt, ↓dAug, ↓dPar, ↓dPar3, ↓dParL, ↓dApp, ↓dExt, ↓dVar, ↓dC, ↓dBin, ↓fI, ↓fI0, ↓fAdd, ↓fEq, ↓fNe, ↓fIn, ↓dTest, ↓dAndT, ↓dOrT, ↓dNotT, ↓dAndV, ↓dOrV, ↓dNotV, ↓dIf, ↓dNeg, ↓dIsN, ↓dChain, ↓dNil, ↓dCons, ↓dTup, ↓dLst, ↓dFz, ↓valsD, ↓dIx, ↓dCall, ↓dCallL, ↓hasSrc, ↓rrv, ↓dN, ↓dT, ↓dTn, ↓dTc, ↓rsv, ↓Gs.set, ↓dFor, ↓dItems, ↓dRange1, ↓dRange2, ↓dZip, ↓dRev, ↓dLc, ↓dCB, ↓cLen, ↓cAll, ↓cTuple, ↓cInt, ↓cInt1, ↓cInt2, ↓dIsi, ↓dBits, ↓dSetS, ↓dCallS, ↓oSub, ↓oAddI, ↓oMul, ↓oDiv, ↓oMod, ↓oShl, ↓oShr, ↓oPow, ↓oAnd, ↓oLt, ↓oLe, ↓oGt, ↓oGe, ↓oAbs, ↓oMax, ↓oMin, ↓dCallK, ↓cRepr, ↓cSum, ↓cMinL, ↓cMaxL, ↓cSorted, ↓cSortedD, ↓cList, ↓dListR, ↓fInD, ↓fMulL, ↓dSl, ↓oNo, ↓oSo, ↓dBy, b__law_pick, fs__law_draw, ent, svOf, List.map_cons, List.map_nil, List.cons_append, List.nil_append, List.append_nil, List.replicate, List.length_cons, List.length_nil, List.getElem?_cons_zero, List.getElem?_cons_succ, List.getElem?_nil, List.set_cons_zero, List.set_cons_succ, Option.map_some, Option.map_none, Option.isNone_some, Option.isNone_none, forall_const, true_implies, false_implies, and_true, true_and, Bool.true_eq_false, Bool.false_eq_true, reduceCtorEq, noOwn, wipeS, hide, fuN_self, lcD, dYes, Nat.zero_add, Nat.reduceAdd, Nat.reduceLeDiff, Nat.reduceSub, atI_0, atI_1, atI_2, atI_3, atI_4, atI_5, Int.one_mul, eqv_ii, eqv_ss, eqv_num, shaped_int, shaped_num, shaped_none, shaped_ru, flat_str, flat_int, flat_none, List.all_cons, List.all_nil, Bool.and_true, decide_eq_true_eq, decide_eq_false_iff_not, Bool.not_eq_true', Bool.not_eq_false', Decidable.not_not, ↓reduceIte, Bool.false_eq_true, Int.reduceLT, eqv_strs, pick_0, pick_01, pick_10, pick_012, pick_021, pick_102, pick_120, pick_201, pick_210]
  refine ⟨_, m, rfl, rfl, by omega, Bn.small (by omega) (by omega) (by decide), fun i i0 i1 => ?_⟩
  obtain ⟨z, hz, ez⟩ := atI_mem (xs := xs) i0 i1
  rw [ez]
  exact h z hz
section
variable {P : Program} {w : World} {K : Fg} {mg : Str → Option Value} {base : Heap}
theorem d__law_pick (T : Tx w K mg) {cdv : Value} {A : Around} {outer : List Env} {s : Shared} {H : Hp} {E : XK} (hr : Room 1 (A.deeper (envOfC "_law_pick" (defScope st__law_pick) s.heap.objs.size T.f__law_pick cdv))) (hgd : (A.deeper (envOfC "_law_pick" (defScope st__law_pick) s.heap.objs.size T.f__law_pick cdv)).guards = some []) :
    PSs (cxOf CX0 P w K mg base N__law_pick "_law_pick" (defScope st__law_pick) T.f__law_pick cdv A outer s H E).nox (defBody st__law_pick) (upS K b__law_pick) :=
  (ss_one (s_ret (e_ix (e_var 1 (pv 1)) (e_call (ok__law_draw T) (hr.mono (by decide)) hgd (by rfl) T.g__law_draw T.F__law_draw.kp T.b__law_draw pass0 (a_cons (e_var 0 (pv 0)) (a_cons (e_len (by rfl) T.n_len (a_cons (e_var 1 (pv 1)) a_nil)) a_nil))))))
theorem ok__law_pick (T : Tx w K mg) : Fn P w K mg base CX0 2 T.f__law_pick T.fd__law_pick ["_law_source_here", "_law_some"] (lift K 2 fs__law_pick) := fn_data T.F__law_pick sc__law_pick b__law_pick (fun _ _ _ _ _ _ hr hgd => d__law_pick T hr hgd) p__law_pick
end
--@@ _law_divisor
def b__law_divisor : DS :=
  (dSeq (dWhile (dTest (dBin oGt (dVar 1) (dC (.int 0))))
    (dPar 0 1 (dVar 1) (dBin oMod (dVar 0) (dVar 1))))
  (dRet (dVar 0)))
def fs__law_divisor : FSp := fun rs fu post => ∃ a b : Int, rs = [.val (.int a), .val (.int b)] ∧ 0 ≤ a ∧ 0 ≤ b ∧ post (.val (.int (Int.gcd a b))) fu
theorem p__law_divisor (rs : List Rv) (fu : Option Nat) (post : Rr → Option Nat → Prop) (hl : rs.length = 2) (h : fs__law_divisor rs fu post) : b__law_divisor ⟨fun g => post (.val .none) g.fu, fun r g => post r g.fu, fun _ => False, fun _ => False⟩ (ent N__law_divisor rs fu) := by
  obtain ⟨a, b, rfl, ha, hb, h⟩ := h
  simp only [↓dSeq, ↓dAsg, ↓dSetL, ↓dNext, ↓dIfS, ↓dRet, ↓dRetL, ↓dDrop, ↓dNever, ↓dBrk, ↓dCnt, ↓dAug, ↓dPar, ↓dPar3, ↓dParL, ↓dApp, ↓dExt, ↓dVar, ↓dC, ↓dBin, ↓fI, ↓fI0, ↓fAdd, ↓fEq, ↓fNe, ↓fIn, ↓dTest, ↓dAndT, ↓dOrT, ↓dNotT, ↓dAndV, ↓dOrV, ↓dNotV, ↓dIf, ↓dNeg, ↓dIsN, ↓dChain, ↓dNil, ↓dCons, ↓dTup, ↓dLst, ↓dFz, ↓valsD, ↓dIx, ↓dCall, ↓dCallL, ↓hasSrc, ↓rrv, ↓dN, ↓dT, ↓dTn, ↓dTc, ↓rsv, ↓Gs.set, ↓dFor, ↓dItems, ↓dRange1, ↓dRange2, ↓dZip, ↓dRev, ↓dLc, ↓dCB, ↓cLen, ↓cAll, ↓cTuple, ↓cInt, ↓cInt1, ↓cInt2, ↓dIsi, ↓dBits, ↓dSetS, ↓dCallS, ↓oSub, ↓oAddI, ↓oMul, ↓oDiv, ↓oMod, ↓oShl, ↓oShr, ↓oPow, ↓oAnd, ↓oLt, ↓oLe, ↓oGt, ↓oGe, ↓oAbs, ↓oMax, ↓oMin, ↓dCallK, ↓cRepr, ↓cSum, ↓cMinL, ↓cMaxL, ↓cSorted, ↓cSortedD, ↓cList, ↓dListR, ↓fInD, ↓fMulL, ↓dSl, ↓oNo, ↓oSo, ↓dBy, b__law_divisor, ent, svOf, List.map_cons, List.map_nil, List.cons_append, List.nil_append, List.append_nil, List.replicate, List.length_cons, List.length_nil, List.getElem?_cons_zero, List.getElem?_cons_succ, List.getElem?_nil, List.set_cons_zero, List.set_cons_succ, Option.map_some, Option.map_none, Option.isNone_some, Option.isNone_none, forall_const, true_implies, false_implies, and_true, true_and, Bool.true_eq_false, Bool.false_eq_true, reduceCtorEq, noOwn, wipeS, hide, fuN_self, lcD, dYes, Nat.zero_add, Nat.reduceAdd, Nat.reduceLeDiff, Nat.reduceSub, atI_0, atI_1, atI_2, atI_3, atI_4, atI_5, Int.one_mul, eqv_ii, eqv_ss, eqv_num, shaped_int, shaped_num, shaped_none, shaped_ru, flat_str, flat_int, flat_none, List.all_cons, List.all_nil, Bool.and_true, decide_eq_true_eq, decide_eq_false_iff_not, Bool.not_eq_true', Bool.not_eq_false', Decidable.not_not, ↓reduceIte, Bool.false_eq_true, Int.reduceLT, eqv_strs, pick_0, pick_01, pick_10, pick_012, pick_021, pick_102, pick_120, pick_201, pick_210]
  refine ⟨fun m g => ∃ x y : Int, g = ⟨[some (.val (.int x)), some (.val (.int y))], fu, fu.isNone⟩ ∧ 0 ≤ x ∧ 0 ≤ y ∧ y.toNat = m ∧ Int.gcd x y = Int.gcd a b, ⟨b.toNat, a, b, rfl, ha, hb, rfl, rfl⟩, fun m g hg => ?_⟩
  obtain ⟨x, y, rfl, hx, hy, rfl, e⟩ := hg
  simp only [↓dSeq, ↓dAsg, ↓dSetL, ↓dNext, ↓dIfS, ↓dRet, ↓dRetL, ↓dDrop, ↓dNever, ↓dBrk, ↓dCnt, ↓dAug, ↓dPar, ↓dPar3, ↓dParL, ↓dApp, ↓dExt, ↓dVar, ↓dC, ↓dBin, ↓fI, ↓fI0, ↓fAdd, ↓fEq, ↓fNe, ↓fIn, ↓dTest, ↓dAndT, ↓dOrT, ↓dNotT, ↓dAndV, ↓dOrV, ↓dNotV, ↓dIf, ↓dNeg, ↓dIsN, ↓dChain, ↓dNil, ↓dCons, ↓dTup, ↓dLst, ↓dFz, ↓valsD, ↓dIx, ↓dCall, ↓dCallL, ↓hasSrc, ↓rrv, ↓dN, ↓dT, ↓dTn, ↓dTc, ↓rsv, ↓Gs.set, ↓dFor, ↓dItems, ↓dRange1, ↓dRange2, ↓dZip, ↓dRev, ↓dLc, ↓dCB, ↓cLen, ↓cAll, ↓cTuple, ↓cInt, ↓cInt1, ↓cInt2, ↓dIsi, ↓dBits, ↓dSetS, ↓dCallS, ↓oSub, ↓oAddI, ↓oMul, ↓oDiv, ↓oMod, ↓oShl, ↓oShr, ↓oPow, ↓oAnd, ↓oLt, ↓oLe, ↓oGt, ↓oGe, ↓oAbs, ↓oMax, ↓oMin, ↓dCallK, ↓cRepr, ↓cSum, ↓cMinL, ↓cMaxL, ↓cSorted, ↓cSortedD, ↓cList, ↓dListR, ↓fInD, ↓fMulL, ↓dSl, ↓oNo, ↓oSo, ↓dBy, ent, svOf, List.map_cons, List.map_nil, List.cons_append, List.nil_append, List.append_nil, List.replicate, List.length_cons, List.length_nil, List.getElem?_cons_zero, List.getElem?_cons_succ, List.getElem?_nil, List.set_cons_zero, List.set_cons_succ, Option.map_some, Option.map_none, Option.isNone_some, Option.isNone_none, forall_const, true_implies, false_implies, and_true, true_and, Bool.true_eq_false, Bool.false_eq_true, reduceCtorEq, noOwn, wipeS, hide, fuN_self, lcD, dYes, Nat.zero_add, Nat.reduceAdd, Nat.reduceLeDiff, Nat.reduceSub, atI_0, atI_1, atI_2, atI_3, atI_4, atI_5, Int.one_mul, eqv_ii, eqv_ss, eqv_num, shaped_int, shaped_num, shaped_none, shaped_ru, flat_str, flat_int, flat_none, List.all_cons, List.all_nil, Bool.and_true, decide_eq_true_eq, decide_eq_false_iff_not, Bool.not_eq_true', Bool.not_eq_false', Decidable.not_not, ↓reduceIte, Bool.false_eq_true, Int.reduceLT, eqv_strs, pick_0, pick_01, pick_10, pick_012, pick_021, pick_102, pick_120, pick_201, pick_210]
  refine ⟨fun hy0 => ?_, fun heq => ?_⟩
  · refine ⟨hy0, (x % y).toNat, ?_, y, x % y, rfl, hy, Int.emod_nonneg _ (by omega), rfl, by rw [gcd_step hx hy0, e]⟩
    have := Int.emod_lt_of_pos x hy0
    have := Int.emod_nonneg x (show y ≠ 0 by omega)
    omega
  · have hy0 : y = 0 := by omega
    subst hy0
    rw [Int.gcd_zero_right] at e
    have : x = ((Int.gcd a b : Nat) : Int) := by omega
    rw [this]
    exact h
section
variable {P : Program} {w : World} {K : Fg} {mg : Str → Option Value} {base : Heap}
theorem d__law_divisor (T : Tx w K mg) {cdv : Value} {A : Around} {outer : List Env} {s : Shared} {H : Hp} {E : XK} (hr : Room 0 (A.deeper (envOfC "_law_divisor" (defScope st__law_divisor) s.heap.objs.size T.f__law_divisor cdv))) (hgd : (A.deeper (envOfC "_law_divisor" (defScope st__law_divisor) s.heap.objs.size T.f__law_divisor cdv)).guards = some []) :
    PSs (cxOf CX0 P w K mg base N__law_divisor "_law_divisor" (defScope st__law_divisor) T.f__law_divisor cdv A outer s H E).nox (defBody st__law_divisor) (upS K b__law_divisor) :=
  (ss_cons (s_while PassesOwn.never (t_gt (e_var 1 (pv 1)) e_int) (ss_one (s_par (i := 0) (j := 1) rfl sc__law_divisor.nd rfl rfl (by decide) rfl rfl (e_var 1 (pv 1)) (e_mod (e_var 0 (pv 0)) (e_var 1 (pv 1))))))
    (ss_one (s_ret (e_var 0 (pv 0)))))
theorem ok__law_divisor (T : Tx w K mg) : Fn P w K mg base CX0 1 T.f__law_divisor T.fd__law_divisor ["_law_one", "_law_other"] (lift K 2 fs__law_divisor) := fn_data T.F__law_divisor sc__law_divisor b__law_divisor (fun _ _ _ _ _ _ hr hgd => d__law_divisor T hr hgd) p__law_divisor
end
--@@ _law_low
def b__law_low : DS :=
  (dSeq (dAsg (dCall 2 fs__law_divisor (dCons (dVar 0) (dCons (dVar 1) dNil))) (dN 2))
  (dRet (dTup (dCons (dBin oDiv (dVar 0) (dVar 2)) (dCons (dBin oDiv (dVar 1) (dVar 2)) dNil)))))
def fs__law_low : FSp := fun rs fu post => ∃ n d : Int, rs = [.val (.int n), .val (.int d)] ∧ 0 ≤ n ∧ 0 < d ∧ Bn 9000 d ∧ post (.val (lowD n d)) fu
theorem p__law_low (rs : List Rv) (fu : Option Nat) (post : Rr → Option Nat → Prop) (hl : rs.length = 2) (h : fs__law_low rs fu post) : b__law_low ⟨fun g => post (.val .none) g.fu, fun r g => post r g.fu, fun _ => False, fun _ => False⟩ (ent N__law_low rs fu) := by
  obtain ⟨n, d, rfl, hn, hd, hs, h⟩ := h
  simp only [↓dSeq, ↓dAsg, ↓dSetL, ↓dNext, ↓dIfS, ↓dRet, ↓dRetL, ↓dDrop, ↓dNever, ↓dBrk, ↓dCnt, ↓dAug, ↓dPar, ↓dPar3, ↓dParL, ↓dApp, ↓dExt, ↓dVar, ↓dC, ↓dBin, ↓fI, ↓fI0, ↓fAdd, ↓fEq, ↓fNe, ↓fIn, ↓dTest, ↓dAndT, ↓dOrT, ↓dNotT, ↓dAndV, ↓dOrV, ↓dNotV, ↓dIf, ↓dNeg, ↓dIsN, ↓dChain, ↓dNil, ↓dCons, ↓dTup, ↓dLst, ↓dFz, ↓valsD, ↓dIx, ↓dCall, ↓dCallL, ↓hasSrc, ↓rrv, ↓dN, ↓dT, ↓dTn, ↓dTc, ↓rsv, ↓Gs.set, ↓dFor, ↓dItems, ↓dRange1, ↓dRange2, ↓dZip, ↓dRev, ↓dLc, ↓dCB, ↓cLen, ↓cAll, ↓cTuple, ↓cInt, ↓cInt1, ↓cInt2, ↓dIsi, ↓dBits, ↓dSetS, ↓dCallS, ↓oSub, ↓oAddI, ↓oMul, ↓oDiv, ↓oMod, ↓oShl, ↓oShr, ↓oPow, ↓oAnd, ↓oLt, ↓oLe, ↓oGt, ↓oGe, ↓oAbs, ↓oMax, ↓oMin, ↓dCallK, ↓cRepr, ↓cSum, ↓cMinL, ↓cMaxL, ↓cSorted, ↓cSortedD, ↓cList, ↓dListR, ↓fInD, ↓fMulL, ↓dSl, ↓oNo, ↓oSo, ↓dBy, b__law_low, fs__law_divisor, ent, svOf, List.map_cons, List.map_nil, List.cons_append, List.nil_append, List.append_nil, List.replicate, List.length_cons, List.length_nil, List.getElem?_cons_zero, List.getElem?_cons_succ, List.getElem?_nil, List.set_cons_zero, List.set_cons_succ, Option.map_some, Option.map_none, Option.isNone_some, Option.isNone_none, forall_const, true_implies, false_implies, and_true, true_and, Bool.true_eq_false, Bool.false_eq_true, reduceCtorEq, noOwn, wipeS, hide, fuN_self, lcD, dYes, Nat.zero_add, Nat.reduceAdd, Nat.reduceLeDiff, Nat.reduceSub, atI_0, atI_1, atI_2, atI_3, atI_4, atI_5, Int.one_mul, eqv_ii, eqv_ss, eqv_num, shaped_int, shaped_num, shaped_none, shaped_ru, flat_str, flat_int, flat_none, List.all_cons, List.all_nil, Bool.and_true, decide_eq_true_eq, decide_eq_false_iff_not, Bool.not_eq_true', Bool.not_eq_false', Decidable.not_not, ↓reduceIte, Bool.false_eq_true, Int.reduceLT, eqv_strs, pick_0, pick_01, pick_10, pick_012, pick_021, pick_102, pick_120, pick_201, pick_210]
  have dv : ∀ x, CDivW x (Int.gcd n d) := fun x => divX 9000 (gcd_pos hd) (hs.le (Int.le_of_lt (gcd_pos hd)) (gcd_le hd)) (Nat.le_refl _)
  refine ⟨n, d, rfl, hn, by omega, dv _, dv _, h⟩
section
variable {P : Program} {w : World} {K : Fg} {mg : Str → Option Value} {base : Heap}
theorem d__law_low (T : Tx w K mg) {cdv : Value} {A : Around} {outer : List Env} {s : Shared} {H : Hp} {E : XK} (hr : Room 1 (A.deeper (envOfC "_law_low" (defScope st__law_low) s.heap.objs.size T.f__law_low cdv))) (hgd : (A.deeper (envOfC "_law_low" (defScope st__law_low) s.heap.objs.size T.f__law_low cdv)).guards = some []) :
    PSs (cxOf CX0 P w K mg base N__law_low "_law_low" (defScope st__law_low) T.f__law_low cdv A outer s H E).nox (defBody st__law_low) (upS K b__law_low) :=
  (ss_cons (s_set (i := 2) sc__law_low.nd rfl (.inl rfl) (e_call (ok__law_divisor T) (hr.mono (by decide)) hgd (by rfl) T.g__law_divisor T.F__law_divisor.kp T.b__law_divisor pass0 (a_cons (e_var 0 (pv 0)) (a_cons (e_var 1 (pv 1)) a_nil))))
    (ss_one (s_ret (e_tup (a_cons (e_div (e_var 0 (pv 0)) (e_var 2 (pv 2))) (a_cons (e_div (e_var 1 (pv 1)) (e_var 2 (pv 2))) a_nil))))))
theorem ok__law_low (T : Tx w K mg) : Fn P w K mg base CX0 2 T.f__law_low T.fd__law_low ["_law_n", "_law_d"] (lift K 2 fs__law_low) := fn_data T.F__law_low sc__law_low b__law_low (fun _ _ _ _ _ _ hr hgd => d__law_low T hr hgd) p__law_low
end
--@@ _law_scaled
def b__law_scaled : DS :=
  (dSeq (dAsg (dVar 0) (dT 2 (dTc (dN 2) (dTc (dN 3) dTn))))
  (dRet (dIf (dTest (dBin oGe (dVar 1) (dC (.int 0)))) (dCall 2 fs__law_low (dCons (dBin oShl (dVar 2) (dVar 1)) (dCons (dVar 3) dNil))) (dCall 2 fs__law_low (dCons (dVar 2) (dCons (dBin oShl (dVar 3) (dBin oSub (dC (.int 0)) (dVar 1))) dNil))))))
/-- times 2 ** e, in lowest terms -/
def scl (n d e : Int) : Int × Int := low (scI n d e).1 (scI n d e).2
def fs__law_scaled : FSp := fun rs fu post => ∃ n d e : Int, rs = [.val (num n d), .val (.int e)] ∧ 0 ≤ n ∧ Bn 100000 n ∧ 0 < d ∧ Bn 4000 d ∧ -4000 ≤ e ∧ e ≤ 4000 ∧ post (.val (nm (scl n d e))) fu
theorem p__law_scaled (rs : List Rv) (fu : Option Nat) (post : Rr → Option Nat → Prop) (hl : rs.length = 2) (h : fs__law_scaled rs fu post) : b__law_scaled ⟨fun g => post (.val .none) g.fu, fun r g => post r g.fu, fun _ => False, fun _ => False⟩ (ent N__law_scaled rs fu) := by
  obtain ⟨n, d, e, rfl, hn, bn, hd, bd, h1, h2, h⟩ := h
  simp only [↓dSeq, ↓dAsg, ↓dSetL, ↓dNext, ↓dIfS, ↓dRet, ↓dRetL, ↓dDrop, ↓dNever, ↓dBrk, ↓dCnt, ↓dAug, ↓dPar, ↓dPar3, ↓dParL, ↓dApp, ↓dExt, ↓dVar, ↓dC, ↓dBin, ↓fI, ↓fI0, ↓fAdd, ↓fEq, ↓fNe, ↓fIn, ↓dTest, ↓dAndT, ↓dOrT, ↓dNotT, ↓dAndV, ↓dOrV, ↓dNotV, ↓dIf, ↓dNeg, ↓dIsN, ↓dChain, ↓dNil, ↓dCons, ↓dTup, ↓dLst, ↓dFz, ↓valsD, ↓dIx, ↓dCall, ↓dCallL, ↓hasSrc, ↓rrv, ↓dN, ↓dT, ↓dTn, ↓dTc, ↓rsv, ↓Gs.set, ↓dFor, ↓dItems, ↓dRange1, ↓dRange2, ↓dZip, ↓dRev, ↓dLc, ↓dCB, ↓cLen, ↓cAll, ↓cTuple, ↓cInt, ↓cInt1, ↓cInt2, ↓dIsi, ↓dBits, ↓dSetS, ↓dCallS, ↓oSub, ↓oAddI, ↓oMul, ↓oDiv, ↓oMod, ↓oShl, ↓oShr, ↓oPow, ↓oAnd, ↓oLt, ↓oLe, ↓oGt, ↓oGe, ↓oAbs, ↓oMax, ↓oMin, ↓dCallK, ↓cRepr, ↓cSum, ↓cMinL, ↓cMaxL, ↓cSorted, ↓cSortedD, ↓cList, ↓dListR, ↓fInD, ↓fMulL, ↓dSl, ↓oNo, ↓oSo, ↓dBy, b__law_scaled, fs__law_low, ent, svOf, List.map_cons, List.map_nil, List.cons_append, List.nil_append, List.append_nil, List.replicate, List.length_cons, List.length_nil, List.getElem?_cons_zero, List.getElem?_cons_succ, List.getElem?_nil, List.set_cons_zero, List.set_cons_succ, Option.map_some, Option.map_none, Option.isNone_some, Option.isNone_none, forall_const, true_implies, false_implies, and_true, true_and, Bool.true_eq_false, Bool.false_eq_true, reduceCtorEq, noOwn, wipeS, hide, fuN_self, lcD, dYes, Nat.zero_add, Nat.reduceAdd, Nat.reduceLeDiff, Nat.reduceSub, atI_0, atI_1, atI_2, atI_3, atI_4, atI_5, Int.one_mul, eqv_ii, eqv_ss, eqv_num, shaped_int, shaped_num, shaped_none, shaped_ru, flat_str, flat_int, flat_none, List.all_cons, List.all_nil, Bool.and_true, decide_eq_true_eq, decide_eq_false_iff_not, Bool.not_eq_true', Bool.not_eq_false', Decidable.not_not, ↓reduceIte, Bool.false_eq_true, Int.reduceLT, eqv_strs, pick_0, pick_01, pick_10, pick_012, pick_021, pick_102, pick_120, pick_201, pick_210]
  refine ⟨fun he => ⟨shlX 100000 bn he (by omega), _, _, rfl, Int.mul_nonneg hn (Int.le_of_lt (pow2_pos _)), hd, bd.mono (by decide), ?_⟩, fun he => ⟨shlX 4000 bd (by omega) (by omega), _, _, rfl, hn, Int.mul_pos hd (pow2_pos _), (shlB bd).mono (by omega), ?_⟩⟩
  · have e1 : scI n d e = (n * 2 ^ e.toNat, d) := by
      unfold scI
      rw [show (-e).toNat = 0 by omega, Int.pow_zero, Int.mul_one]
    unfold scl at h
    rw [e1] at h
    exact h
  · have e1 : scI n d e = (n, d * 2 ^ (0 - e).toNat) := by
      unfold scI
      rw [show e.toNat = 0 by omega, Int.pow_zero, Int.mul_one, show (0 - e).toNat = (-e).toNat by omega]
    unfold scl at h
    rw [e1] at h
    exact h
section
variable {P : Program} {w : World} {K : Fg} {mg : Str → Option Value} {base : Heap}
theorem d__law_scaled (T : Tx w K mg) {cdv : Value} {A : Around} {outer : List Env} {s : Shared} {H : Hp} {E : XK} (hr : Room 2 (A.deeper (envOfC "_law_scaled" (defScope st__law_scaled) s.heap.objs.size T.f__law_scaled cdv))) (hgd : (A.deeper (envOfC "_law_scaled" (defScope st__law_scaled) s.heap.objs.size T.f__law_scaled cdv)).guards = some []) :
    PSs (cxOf CX0 P w K mg base N__law_scaled "_law_scaled" (defScope st__law_scaled) T.f__law_scaled cdv A outer s H E).nox (defBody st__law_scaled) (upS K b__law_scaled) :=
  (ss_cons (s_asg (e_var 0 (pv 0)) (g_tup rfl (gs_cons (g_name (pg_name (i := 2) sc__law_scaled.nd rfl (.inl rfl))) (gs_cons (g_name (pg_name (i := 3) sc__law_scaled.nd rfl (.inl rfl))) gs_nil))))
    (ss_one (s_ret (e_if (t_ge (e_var 1 (pv 1)) e_int) (e_call (ok__law_low T) (hr.mono (by decide)) hgd (by rfl) T.g__law_low T.F__law_low.kp T.b__law_low pass0 (a_cons (e_shl (e_var 2 (pv 2)) (e_var 1 (pv 1))) (a_cons (e_var 3 (pv 3)) a_nil))) (e_call (ok__law_low T) (hr.mono (by decide)) hgd (by rfl) T.g__law_low T.F__law_low.kp T.b__law_low pass0 (a_cons (e_var 2 (pv 2)) (a_cons (e_shl (e_var 3 (pv 3)) (e_sub e_int (e_var 1 (pv 1)))) a_nil)))))))
theorem ok__law_scaled (T : Tx w K mg) : Fn P w K mg base CX0 3 T.f__law_scaled T.fd__law_scaled ["_law_number_here", "_law_e"] (lift K 2 fs__law_scaled) := fn_data T.F__law_scaled sc__law_scaled b__law_scaled (fun _ _ _ _ _ _ hr hgd => d__law_scaled T hr hgd) p__law_scaled
end
--@@ _law_number
def b__law_number : DS :=
  (dSeq (dPar 2 3 (dBin fAdd (dC (.int 1)) (dCall 2 fs__law_draw (dCons (dVar 0) (dCons (dCall 2 fs__law_pick (dCons (dVar 0) (dCons (dFz (dLst (dCons (dC (.int 8)) (dCons (dC (.int 64)) (dCons (dC (.int 1024)) (dCons (dVar 1) dNil)))))) dNil))) dNil)))) (dCall 2 fs__law_pick (dCons (dVar 0) (dCons (dFz (dLst (dCons (dC (.int 1)) (dCons (dC (.int 1)) (dCons (dC (.int 2)) (dCons (dC (.int 16)) (dCons (dC (.int 3)) (dCons (dC (.int 10)) dNil)))))))) dNil))))
  (dSeq (dAsg (dCall 2 fs__law_pick (dCons (dVar 0) (dCons (dFz (dLst (dCons (dVar 3) (dCons (dVar 3) (dCons (dBin fAdd (dC (.int 1)) (dCall 2 fs__law_draw (dCons (dVar 0) (dCons (dVar 1) dNil)))) dNil))))) dNil))) (dN 3))
  (dRet (dCall 2 fs__law_scaled (dCons (dCall 2 fs__law_low (dCons (dVar 2) (dCons (dVar 3) dNil))) (dCons (dBin oSub (dCall 2 fs__law_draw (dCons (dVar 0) (dCons (dC (.int 13)) dNil))) (dC (.int 6))) dNil))))))
theorem scl_ok {n d e : Int} (hn : 0 < n) (hd : 0 < d) : 0 < (scl n d e).1 ∧ 0 < (scl n d e).2 ∧ Int.gcd (scl n d e).1 (scl n d e).2 = 1 := by
  obtain ⟨a, b⟩ := scI_pos (f := e) hn hd
  obtain ⟨h1, h2, h3, _⟩ := low_pos a b
  exact ⟨h1, h2, h3⟩
theorem scl_B {n d e : Int} {a b : Nat} (hn : 0 < n) (hd : 0 < d) (bn : Bn a n) (bd : Bn b d) (m : Nat) (hm : (a : Int) + e + 1 ≤ m) (hm' : (b : Int) - e + 1 ≤ m) (ha : a + 1 ≤ m) (hb : b + 1 ≤ m) : Bn m (scl n d e).1 ∧ Bn m (scl n d e).2 := by
  obtain ⟨p, q⟩ := scI_pos (f := e) hn hd
  obtain ⟨h1, h2, h3, h4, h5⟩ := low_pos p q
  have b1 : Bn m (scI n d e).1 := (shlB bn).mono (by omega)
  have b2 : Bn m (scI n d e).2 := (shlB bd).mono (by omega)
  exact ⟨b1.le (Int.le_of_lt h1) h4, b2.le (Int.le_of_lt h2) h5⟩
def fs__law_number : FSp := fun rs fu post => ∃ (mo : Int) (m : Nat), rs = [.src, .val (.int mo)] ∧ fu = some (m + 6) ∧ 1 ≤ mo ∧ mo ≤ 1000000000000 ∧ ∀ n d : Int, 0 < n → Bn 80 n → 0 < d → Bn 80 d → Int.gcd n d = 1 → post (.val (num n d)) (some m)
theorem p__law_number (rs : List Rv) (fu : Option Nat) (post : Rr → Option Nat → Prop) (hl : rs.length = 2) (h : fs__law_number rs fu post) : b__law_number ⟨fun g => post (.val .none) g.fu, fun r g => post r g.fu, fun _ => False, fun _ => False⟩ (ent N__law_number rs fu) := by
  obtain ⟨mo, m, rfl, rfl, h0, h1, h⟩ := h
  simp only [↓dSeq, ↓dAsg, ↓dSetL, ↓dNext, ↓dIfS, ↓dRet, ↓dRetL, ↓dDrop, ↓dNever, ↓dBrk, ↓dCnt, ↓dAug, ↓dPar, ↓dPar3, ↓dParL, ↓dApp, ↓dExt, ↓dVar, ↓dC, ↓dBin, ↓fI, ↓fI0, ↓fAdd, ↓fEq, ↓fNe, ↓fIn, ↓dTest, ↓dAndT, ↓dOrT, ↓dNotT, ↓dAndV, ↓dOrV, ↓dNotV, ↓dIf, ↓dNeg, ↓dIsN, ↓dChain, ↓dNil, ↓dCons, ↓dTup, ↓dLst, ↓dFz, ↓valsD, ↓dIx, ↓dCall, ↓dCallL, ↓hasSrc, ↓rrv, ↓dN, ↓dT, ↓dTn, ↓dTc, ↓rsv, ↓Gs.set, ↓dFor, ↓dItems, ↓dRange1, ↓dRange2, ↓dZip, ↓dRev, ↓dLc, ↓dCB, ↓cLen, ↓cAll, ↓cTuple, ↓cInt, ↓cInt1, ↓cInt2, ↓dIsi, ↓dBits, ↓dSetS, ↓dCallS, ↓oSub, ↓oAddI, ↓oMul, ↓oDiv, ↓oMod, ↓oShl, ↓oShr, ↓oPow, ↓oAnd, ↓oLt, ↓oLe, ↓oGt, ↓oGe, ↓oAbs, ↓oMax, ↓oMin, ↓dCallK, ↓cRepr, ↓cSum, ↓cMinL, ↓cMaxL, ↓cSorted, ↓cSortedD, ↓cList, ↓dListR, ↓fInD, ↓fMulL, ↓dSl, ↓oNo, ↓oSo, ↓dBy, b__law_number, fs__law_draw, fs__law_pick, fs__law_low, fs__law_scaled, ent, svOf, List.map_cons, List.map_nil, List.cons_append, List.nil_append, List.append_nil, List.replicate, List.length_cons, List.length_nil, List.getElem?_cons_zero, List.getElem?_cons_succ, List.getElem?_nil, List.set_cons_zero, List.set_cons_succ, Option.map_some, Option.map_none, Option.isNone_some, Option.isNone_none, forall_const, true_implies, false_implies, and_true, true_and, Bool.true_eq_false, Bool.false_eq_true, reduceCtorEq, noOwn, wipeS, hide, fuN_self, lcD, dYes, Nat.zero_add, Nat.reduceAdd, Nat.reduceLeDiff, Nat.reduceSub, atI_0, atI_1, atI_2, atI_3, atI_4, atI_5, Int.one_mul, eqv_ii, eqv_ss, eqv_num, shaped_int, shaped_num, shaped_none, shaped_ru, flat_str, flat_int, flat_none, List.all_cons, List.all_nil, Bool.and_true, decide_eq_true_eq, decide_eq_false_iff_not, Bool.not_eq_true', Bool.not_eq_false', Decidable.not_not, ↓reduceIte, Bool.false_eq_true, Int.reduceLT, eqv_strs, pick_0, pick_01, pick_10, pick_012, pick_021, pick_102, pick_120, pick_201, pick_210]
  refine ⟨_, m + 5, rfl, rfl, by show 0 < 4; decide, by show 4 < 1000000; decide, fun v hv => ?_⟩
  obtain ⟨s, rfl, s0, s1⟩ : ∃ s : Int, v = .int s ∧ 0 < s ∧ s ≤ 1000000000000 := by
    simp only [List.mem_cons, List.not_mem_nil, or_false] at hv
    rcases hv with rfl | rfl | rfl | rfl
    · exact ⟨_, rfl, by decide, by decide⟩
    · exact ⟨_, rfl, by decide, by decide⟩
    · exact ⟨_, rfl, by decide, by decide⟩
    · exact ⟨_, rfl, by omega, by omega⟩
  refine ⟨s, m + 4, rfl, rfl, s0, Bn.small (by omega) (by omega) (by decide), fun i i0 i1 => ?_⟩
  refine ⟨_, m + 3, rfl, rfl, by show 0 < 6; decide, by show 6 < 1000000; decide, fun v hv => ?_⟩
  obtain ⟨t, rfl, t0, t1⟩ : ∃ s : Int, v = .int s ∧ 0 < s ∧ s ≤ 16 := by
    simp only [List.mem_cons, List.not_mem_nil, or_false] at hv
    rcases hv with rfl | rfl | rfl | rfl | rfl | rfl <;> exact ⟨_, rfl, by decide, by decide⟩
  refine ⟨mo, m + 2, rfl, rfl, by omega, Bn.small (by omega) (by omega) (by decide), fun j j0 j1 => ?_⟩
  refine ⟨_, m + 1, rfl, rfl, by show 0 < 3; decide, by show 3 < 1000000; decide, fun v hv => ?_⟩
  obtain ⟨u, rfl, u0, u1⟩ : ∃ s : Int, v = .int s ∧ 0 < s ∧ s ≤ 1000000000001 := by
    simp only [List.mem_cons, List.not_mem_nil, or_false] at hv
    rcases hv with rfl | rfl | rfl
    · exact ⟨_, rfl, by omega, by omega⟩
    · exact ⟨_, rfl, by omega, by omega⟩
    · exact ⟨_, rfl, by omega, by omega⟩
  obtain ⟨l1, l2, l3, l4, l5⟩ := low_pos (n := 1 + i) (d := u) (by omega) u0
  refine ⟨1 + i, u, rfl, by omega, u0, Bn.small (by omega) (by omega) (by decide), 13, m, rfl, rfl, by decide, Bn.small (by decide) (by decide) (by decide), fun e e0 e1 => ?_⟩
  have bn : Bn 64 (low (1 + i) u).1 := Bn.small (by omega) (by omega) (by decide)
  have bd : Bn 64 (low (1 + i) u).2 := Bn.small (by omega) (by omega) (by decide)
  refine ⟨_, _, _, rfl, Int.le_of_lt l1, bn.mono (by decide), l2, bd.mono (by decide), by omega, by omega, ?_⟩
  obtain ⟨o1, o2, o3⟩ := scl_ok (e := e - 6) l1 l2
  obtain ⟨p1, p2⟩ := scl_B (e := e - 6) l1 l2 bn bd 80 (by omega) (by omega) (by decide) (by decide)
  exact h _ _ o1 p1 o2 p2 o3
section
variable {P : Program} {w : World} {K : Fg} {mg : Str → Option Value} {base : Heap}
theorem d__law_number (T : Tx w K mg) {cdv : Value} {A : Around} {outer : List Env} {s : Shared} {H : Hp} {E : XK} (hr : Room 3 (A.deeper (envOfC "_law_number" (defScope st__law_number) s.heap.objs.size T.f__law_number cdv))) (hgd : (A.deeper (envOfC "_law_number" (defScope st__law_number) s.heap.objs.size T.f__law_number cdv)).guards = some []) :
    PSs (cxOf CX0 P w K mg base N__law_number "_law_number" (defScope st__law_number) T.f__law_number cdv A outer s H E).nox (defBody st__law_number) (upS K b__law_number) :=
  (ss_cons (s_par (i := 2) (j := 3) rfl sc__law_number.nd rfl rfl (by decide) rfl rfl (e_add e_int (e_call (ok__law_draw T) (hr.mono (by decide)) hgd (by rfl) T.g__law_draw T.F__law_draw.kp T.b__law_draw pass0 (a_cons (e_var 0 (pv 0)) (a_cons (e_call (ok__law_pick T) (hr.mono (by decide)) hgd (by rfl) T.g__law_pick T.F__law_pick.kp T.b__law_pick pass0 (a_cons (e_var 0 (pv 0)) (a_cons (e_fz (e_lstL (a_cons e_int (a_cons e_int (a_cons e_int (a_cons (e_var 1 (pv 1)) a_nil)))))) a_nil))) a_nil)))) (e_call (ok__law_pick T) (hr.mono (by decide)) hgd (by rfl) T.g__law_pick T.F__law_pick.kp T.b__law_pick pass0 (a_cons (e_var 0 (pv 0)) (a_cons (e_fz (e_lstL (a_cons e_int (a_cons e_int (a_cons e_int (a_cons e_int (a_cons e_int (a_cons e_int a_nil)))))))) a_nil))))
    (ss_cons (s_set (i := 3) sc__law_number.nd rfl (.inl rfl) (e_call (ok__law_pick T) (hr.mono (by decide)) hgd (by rfl) T.g__law_pick T.F__law_pick.kp T.b__law_pick pass0 (a_cons (e_var 0 (pv 0)) (a_cons (e_fz (e_lstL (a_cons (e_var 3 (pv 3)) (a_cons (e_var 3 (pv 3)) (a_cons (e_add e_int (e_call (ok__law_draw T) (hr.mono (by decide)) hgd (by rfl) T.g__law_draw T.F__law_draw.kp T.b__law_draw pass0 (a_cons (e_var 0 (pv 0)) (a_cons (e_var 1 (pv 1)) a_nil)))) a_nil))))) a_nil))))
    (ss_one (s_ret (e_call (ok__law_scaled T) (hr.mono (by decide)) hgd (by rfl) T.g__law_scaled T.F__law_scaled.kp T.b__law_scaled pass0 (a_cons (e_call (ok__law_low T) (hr.mono (by decide)) hgd (by rfl) T.g__law_low T.F__law_low.kp T.b__law_low pass0 (a_cons (e_var 2 (pv 2)) (a_cons (e_var 3 (pv 3)) a_nil))) (a_cons (e_sub (e_call (ok__law_draw T) (hr.mono (by decide)) hgd (by rfl) T.g__law_draw T.F__law_draw.kp T.b__law_draw pass0 (a_cons (e_var 0 (pv 0)) (a_cons e_int a_nil))) e_int) a_nil)))))))
theorem ok__law_number (T : Tx w K mg) : Fn P w K mg base CX0 4 T.f__law_number T.fd__law_number ["_law_source_here", "_law_most"] (lift K 2 fs__law_number) := fn_data T.F__law_number sc__law_number b__law_number (fun _ _ _ _ _ _ hr hgd => d__law_number T hr hgd) p__law_number
end
--@@ _law_cell_of
def b__law_cell_of : DS :=
  (dSeq (dAsg (dVar 0) (dT 2 (dTc (dN 2) (dTc (dN 3) dTn))))
  (dSeq (dAsg (dBin oSub (dBin oSub (dBits (dVar 2)) (dBits (dVar 3))) (dVar 1)) (dN 4))
  (dSeq (dWhile (dNotT (dTest (dBin oLt (dBin oShl (dVar 2) (dCB oMax (dCons (dBin oSub (dC (.int 0)) (dVar 4)) (dCons (dC (.int 0)) dNil)))) (dBin oShl (dVar 3) (dBin fAdd (dCB oMax (dCons (dVar 4) (dCons (dC (.int 0)) dNil))) (dVar 1))))))
    (dAsg (dBin fAdd (dVar 4) (dC (.int 1))) (dN 4)))
  (dRet (dTup (dCons (dBin oDiv (dBin oShl (dVar 2) (dCB oMax (dCons (dBin oSub (dC (.int 0)) (dVar 4)) (dCons (dC (.int 0)) dNil)))) (dBin oShl (dVar 3) (dCB oMax (dCons (dVar 4) (dCons (dC (.int 0)) dNil))))) (dCons (dVar 4) dNil)))))))
theorem cell_last {n d w : Int} (hn : 0 < n) (hd : 0 < d) (hw : 1 ≤ w) : (scI n d (0 - (cellI n d w).2)).1 < (scI n d (0 - (cellI n d w).2)).2 * 2 ^ w.toNat := by
  obtain ⟨c, _, c2, _⟩ := cellI_spec hn hd hw
  obtain ⟨a0, b0⟩ := scI_pos (f := 0 - (cellI n d w).2) hn hd
  rw [c] at c2
  rw [Int.mul_comm]
  exact (Int.ediv_lt_iff_lt_mul b0).mp c2
theorem cell_first {n d w e : Int} (hn : 0 < n) (hd : 0 < d) (hw : 1 ≤ w) (h1 : bl n - bl d - w ≤ e) (h2 : e ≤ (cellI n d w).2) : e = (cellI n d w).2 ∨ (e + 1 = (cellI n d w).2 ∧ (scI n d (0 - e)).2 * 2 ^ w.toNat ≤ (scI n d (0 - e)).1) := by
  by_cases he : e = (cellI n d w).2
  · exact .inl he
  · refine .inr ?_
    obtain ⟨_, _, _, c4, c5⟩ := cellI_spec hn hd hw
    have e1 : e = bl n - bl d - w := by omega
    have e2 : (cellI n d w).2 = e + 1 := by omega
    refine ⟨e2.symm, ?_⟩
    obtain ⟨a0, b0⟩ := scI_pos (f := 0 - e) hn hd
    have hc : 2 ^ w.toNat ≤ (scI n d (0 - (bl n - bl d - w))).1 / (scI n d (0 - (bl n - bl d - w))).2 := by
      by_cases hc : 2 ^ w.toNat ≤ (scI n d (0 - (bl n - bl d - w))).1 / (scI n d (0 - (bl n - bl d - w))).2
      · exact hc
      · have : (cellI n d w).2 = bl n - bl d - w := by unfold cellI; rw [if_neg hc]
        omega
    rw [← e1] at hc
    rw [Int.mul_comm]
    exact (Int.le_ediv_iff_mul_le b0).mp hc
def fs__law_cell_of : FSp := fun rs fu post => ∃ n d w : Int, rs = [.val (num n d), .val (.int w)] ∧ 0 < n ∧ Bn 4000 n ∧ 0 < d ∧ Bn 4000 d ∧ 1 ≤ w ∧ w ≤ 100 ∧ post (.val (nm (cellI n d w))) fu
theorem p__law_cell_of (rs : List Rv) (fu : Option Nat) (post : Rr → Option Nat → Prop) (hl : rs.length = 2) (h : fs__law_cell_of rs fu post) : b__law_cell_of ⟨fun g => post (.val .none) g.fu, fun r g => post r g.fu, fun _ => False, fun _ => False⟩ (ent N__law_cell_of rs fu) := by
  obtain ⟨n, d, w, rfl, hn, bn, hd, bd, h1, h2, h⟩ := h
  obtain ⟨cc, _, _, c4, c5⟩ := cellI_spec hn hd h1
  obtain ⟨b1, b2⟩ := cell_e hn bn hd bd h1 h2
  simp only [↓dSeq, ↓dAsg, ↓dSetL, ↓dNext, ↓dIfS, ↓dRet, ↓dRetL, ↓dDrop, ↓dNever, ↓dBrk, ↓dCnt, ↓dAug, ↓dPar, ↓dPar3, ↓dParL, ↓dApp, ↓dExt, ↓dVar, ↓dC, ↓dBin, ↓fI, ↓fI0, ↓fAdd, ↓fEq, ↓fNe, ↓fIn, ↓dTest, ↓dAndT, ↓dOrT, ↓dNotT, ↓dAndV, ↓dOrV, ↓dNotV, ↓dIf, ↓dNeg, ↓dIsN, ↓dChain, ↓dNil, ↓dCons, ↓dTup, ↓dLst, ↓dFz, ↓valsD, ↓dIx, ↓dCall, ↓dCallL, ↓hasSrc, ↓rrv, ↓dN, ↓dT, ↓dTn, ↓dTc, ↓rsv, ↓Gs.set, ↓dFor, ↓dItems, ↓dRange1, ↓dRange2, ↓dZip, ↓dRev, ↓dLc, ↓dCB, ↓cLen, ↓cAll, ↓cTuple, ↓cInt, ↓cInt1, ↓cInt2, ↓dIsi, ↓dBits, ↓dSetS, ↓dCallS, ↓oSub, ↓oAddI, ↓oMul, ↓oDiv, ↓oMod, ↓oShl, ↓oShr, ↓oPow, ↓oAnd, ↓oLt, ↓oLe, ↓oGt, ↓oGe, ↓oAbs, ↓oMax, ↓oMin, ↓dCallK, ↓cRepr, ↓cSum, ↓cMinL, ↓cMaxL, ↓cSorted, ↓cSortedD, ↓cList, ↓dListR, ↓fInD, ↓fMulL, ↓dSl, ↓oNo, ↓oSo, ↓dBy, b__law_cell_of, ent, svOf, List.map_cons, List.map_nil, List.cons_append, List.nil_append, List.append_nil, List.replicate, List.length_cons, List.length_nil, List.getElem?_cons_zero, List.getElem?_cons_succ, List.getElem?_nil, List.set_cons_zero, List.set_cons_succ, Option.map_some, Option.map_none, Option.isNone_some, Option.isNone_none, forall_const, true_implies, false_implies, and_true, true_and, Bool.true_eq_false, Bool.false_eq_true, reduceCtorEq, noOwn, wipeS, hide, fuN_self, lcD, dYes, Nat.zero_add, Nat.reduceAdd, Nat.reduceLeDiff, Nat.reduceSub, atI_0, atI_1, atI_2, atI_3, atI_4, atI_5, Int.one_mul, eqv_ii, eqv_ss, eqv_num, shaped_int, shaped_num, shaped_none, shaped_ru, flat_str, flat_int, flat_none, List.all_cons, List.all_nil, Bool.and_true, decide_eq_true_eq, decide_eq_false_iff_not, Bool.not_eq_true', Bool.not_eq_false', Decidable.not_not, ↓reduceIte, Bool.false_eq_true, Int.reduceLT, eqv_strs, pick_0, pick_01, pick_10, pick_012, pick_021, pick_102, pick_120, pick_201, pick_210]
  refine ⟨fun m g => ∃ e : Int, g = ⟨[some (.val (num n d)), some (.val (.int w)), some (.val (.int n)), some (.val (.int d)), some (.val (.int e))], fu, fu.isNone⟩ ∧ bl n - bl d - w ≤ e ∧ e ≤ (cellI n d w).2 ∧ ((cellI n d w).2 - e).toNat = m, ⟨_, bl n - bl d - w, rfl, by omega, c4, rfl⟩, fun m g hg => ?_⟩
  obtain ⟨e, rfl, g1, g2, rfl⟩ := hg
  have x1 := max0le (e := 0 - e) (b := 5000) (by omega) (by decide)
  have x2 := max0le (e := e) (b := 5000) (by omega) (by decide)
  have x3 := max0nn e
  have s1 : CShl n (if (0 : Int) > 0 - e then 0 else 0 - e) := shlX 4000 bn (max0nn _) (by omega)
  have s2 : CShl d (if (0 : Int) > e then 0 else e) := shlX 4000 bd (max0nn _) (by omega)
  have s3 : CShl d ((if (0 : Int) > e then 0 else e) + w) := shlX 4000 bd (by omega) (by omega)
  simp only [↓dSeq, ↓dAsg, ↓dSetL, ↓dNext, ↓dIfS, ↓dRet, ↓dRetL, ↓dDrop, ↓dNever, ↓dBrk, ↓dCnt, ↓dAug, ↓dPar, ↓dPar3, ↓dParL, ↓dApp, ↓dExt, ↓dVar, ↓dC, ↓dBin, ↓fI, ↓fI0, ↓fAdd, ↓fEq, ↓fNe, ↓fIn, ↓dTest, ↓dAndT, ↓dOrT, ↓dNotT, ↓dAndV, ↓dOrV, ↓dNotV, ↓dIf, ↓dNeg, ↓dIsN, ↓dChain, ↓dNil, ↓dCons, ↓dTup, ↓dLst, ↓dFz, ↓valsD, ↓dIx, ↓dCall, ↓dCallL, ↓hasSrc, ↓rrv, ↓dN, ↓dT, ↓dTn, ↓dTc, ↓rsv, ↓Gs.set, ↓dFor, ↓dItems, ↓dRange1, ↓dRange2, ↓dZip, ↓dRev, ↓dLc, ↓dCB, ↓cLen, ↓cAll, ↓cTuple, ↓cInt, ↓cInt1, ↓cInt2, ↓dIsi, ↓dBits, ↓dSetS, ↓dCallS, ↓oSub, ↓oAddI, ↓oMul, ↓oDiv, ↓oMod, ↓oShl, ↓oShr, ↓oPow, ↓oAnd, ↓oLt, ↓oLe, ↓oGt, ↓oGe, ↓oAbs, ↓oMax, ↓oMin, ↓dCallK, ↓cRepr, ↓cSum, ↓cMinL, ↓cMaxL, ↓cSorted, ↓cSortedD, ↓cList, ↓dListR, ↓fInD, ↓fMulL, ↓dSl, ↓oNo, ↓oSo, ↓dBy, ent, svOf, List.map_cons, List.map_nil, List.cons_append, List.nil_append, List.append_nil, List.replicate, List.length_cons, List.length_nil, List.getElem?_cons_zero, List.getElem?_cons_succ, List.getElem?_nil, List.set_cons_zero, List.set_cons_succ, Option.map_some, Option.map_none, Option.isNone_some, Option.isNone_none, forall_const, true_implies, false_implies, and_true, true_and, Bool.true_eq_false, Bool.false_eq_true, reduceCtorEq, noOwn, wipeS, hide, fuN_self, lcD, dYes, Nat.zero_add, Nat.reduceAdd, Nat.reduceLeDiff, Nat.reduceSub, atI_0, atI_1, atI_2, atI_3, atI_4, atI_5, Int.one_mul, eqv_ii, eqv_ss, eqv_num, shaped_int, shaped_num, shaped_none, shaped_ru, flat_str, flat_int, flat_none, List.all_cons, List.all_nil, Bool.and_true, decide_eq_true_eq, decide_eq_false_iff_not, Bool.not_eq_true', Bool.not_eq_false', Decidable.not_not, ↓reduceIte, Bool.false_eq_true, Int.reduceLT, eqv_strs, pick_0, pick_01, pick_10, pick_012, pick_021, pick_102, pick_120, pick_201, pick_210]
  refine ⟨s1, s3, ?_⟩
  rw [max0, max0w (by omega), max0e, Int.pow_add, ← Int.mul_assoc]
  refine ⟨fun hf => ?_, fun ht => ?_⟩
  · rcases cell_first hn hd h1 g1 g2 with rfl | ⟨q1, q2⟩
    · exact absurd (cell_last hn hd h1) hf
    · exact ⟨_, by omega, e + 1, rfl, by omega, by omega, rfl⟩
  · rcases cell_first hn hd h1 g1 g2 with rfl | ⟨q1, q2⟩
    · refine ⟨s1, s2, divX 9000 (Int.mul_pos hd (pow2_pos _)) ((shlB bd).mono (by omega)) (Nat.le_refl _), ?_⟩
      have e1 : cellI n d w = (n * 2 ^ (0 - (cellI n d w).2).toNat / (d * 2 ^ (-(0 - (cellI n d w).2)).toNat), (cellI n d w).2) := Prod.ext cc rfl
      rw [e1] at h
      exact h
    · exact absurd ht (Int.not_lt.mpr q2)
section
variable {P : Program} {w : World} {K : Fg} {mg : Str → Option Value} {base : Heap}
theorem d__law_cell_of (T : Tx w K mg) {cdv : Value} {A : Around} {outer : List Env} {s : Shared} {H : Hp} {E : XK} (hr : Room 0 (A.deeper (envOfC "_law_cell_of" (defScope st__law_cell_of) s.heap.objs.size T.f__law_cell_of cdv))) (hgd : (A.deeper (envOfC "_law_cell_of" (defScope st__law_cell_of) s.heap.objs.size T.f__law_cell_of cdv)).guards = some []) :
    PSs (cxOf CX0 P w K mg base N__law_cell_of "_law_cell_of" (defScope st__law_cell_of) T.f__law_cell_of cdv A outer s H E).nox (defBody st__law_cell_of) (upS K b__law_cell_of) :=
  (ss_cons (s_asg (e_var 0 (pv 0)) (g_tup rfl (gs_cons (g_name (pg_name (i := 2) sc__law_cell_of.nd rfl (.inl rfl))) (gs_cons (g_name (pg_name (i := 3) sc__law_cell_of.nd rfl (.inl rfl))) gs_nil))))
    (ss_cons (s_set (i := 4) sc__law_cell_of.nd rfl (.inl rfl) (e_sub (e_sub (e_bits (e_var 2 (pv 2))) (e_bits (e_var 3 (pv 3)))) (e_var 1 (pv 1))))
    (ss_cons (s_while PassesOwn.never (t_not (t_lt (e_shl (e_var 2 (pv 2)) (e_max rfl (by rfl) T.n_max (a_cons (e_sub e_int (e_var 4 (pv 4))) (a_cons e_int a_nil)))) (e_shl (e_var 3 (pv 3)) (e_add (e_max rfl (by rfl) T.n_max (a_cons (e_var 4 (pv 4)) (a_cons e_int a_nil))) (e_var 1 (pv 1)))))) (ss_one (s_set (i := 4) sc__law_cell_of.nd rfl (.inl rfl) (e_add (e_var 4 (pv 4)) e_int))))
    (ss_one (s_ret (e_tup (a_cons (e_div (e_shl (e_var 2 (pv 2)) (e_max rfl (by rfl) T.n_max (a_cons (e_sub e_int (e_var 4 (pv 4))) (a_cons e_int a_nil)))) (e_shl (e_var 3 (pv 3)) (e_max rfl (by rfl) T.n_max (a_cons (e_var 4 (pv 4)) (a_cons e_int a_nil))))) (a_cons (e_var 4 (pv 4)) a_nil))))))))
theorem ok__law_cell_of (T : Tx w K mg) : Fn P w K mg base CX0 1 T.f__law_cell_of T.fd__law_cell_of ["_law_number_here", "_law_width"] (lift K 2 fs__law_cell_of) := fn_data T.F__law_cell_of sc__law_cell_of b__law_cell_of (fun _ _ _ _ _ _ hr hgd => d__law_cell_of T hr hgd) p__law_cell_of
end
--@@ _law_place
def b__law_place : DS :=
  (dSeq (dAsg (dCall 2 fs__law_cell_of (dCons (dVar 0) (dCons (dVar 1) dNil))) (dT 2 (dTc (dN 2) (dTc (dN 3) dTn))))
  (dSeq (dPar 4 5 (dBin oShl (dIx (dVar 0) (dC (.int 0))) (dCB oMax (dCons (dBin oSub (dC (.int 0)) (dVar 3)) (dCons (dC (.int 0)) dNil)))) (dBin oShl (dIx (dVar 0) (dC (.int 1))) (dCB oMax (dCons (dVar 3) (dCons (dC (.int 0)) dNil)))))
  (dRet (dCall 2 fs__law_low (dCons (dBin oSub (dVar 4) (dBin oMul (dVar 2) (dVar 5))) (dCons (dVar 5) dNil))))))
def fs__law_place : FSp := fun rs fu post => ∃ n d w : Int, rs = [.val (num n d), .val (.int w)] ∧ 0 < n ∧ Bn 4000 n ∧ 0 < d ∧ Bn 4000 d ∧ 1 ≤ w ∧ w ≤ 100 ∧ post (.val (nm (posI n d w))) fu
theorem p__law_place (rs : List Rv) (fu : Option Nat) (post : Rr → Option Nat → Prop) (hl : rs.length = 2) (h : fs__law_place rs fu post) : b__law_place ⟨fun g => post (.val .none) g.fu, fun r g => post r g.fu, fun _ => False, fun _ => False⟩ (ent N__law_place rs fu) := by
  obtain ⟨n, d, w, rfl, hn, bn, hd, bd, h1, h2, h⟩ := h
  obtain ⟨c1, c2⟩ := cell_e hn bn hd bd h1 h2
  obtain ⟨k1, k2⟩ := cell_kB hn hd h1 h2
  obtain ⟨a0, b0⟩ := scI_pos (f := 0 - (cellI n d w).2) hn hd
  have bb : Bn 9000 (scI n d (0 - (cellI n d w).2)).2 := (shlB bd).mono (by omega)
  have x1 := max0le (e := 0 - (cellI n d w).2) (b := 5000) (by omega) (by decide)
  have x2 := max0le (e := (cellI n d w).2) (b := 5000) (by omega) (by decide)
  simp only [↓dSeq, ↓dAsg, ↓dSetL, ↓dNext, ↓dIfS, ↓dRet, ↓dRetL, ↓dDrop, ↓dNever, ↓dBrk, ↓dCnt, ↓dAug, ↓dPar, ↓dPar3, ↓dParL, ↓dApp, ↓dExt, ↓dVar, ↓dC, ↓dBin, ↓fI, ↓fI0, ↓fAdd, ↓fEq, ↓fNe, ↓fIn, ↓dTest, ↓dAndT, ↓dOrT, ↓dNotT, ↓dAndV, ↓dOrV, ↓dNotV, ↓dIf, ↓dNeg, ↓dIsN, ↓dChain, ↓dNil, ↓dCons, ↓dTup, ↓dLst, ↓dFz, ↓valsD, ↓dIx, ↓dCall, ↓dCallL, ↓hasSrc, ↓rrv, ↓dN, ↓dT, ↓dTn, ↓dTc, ↓rsv, ↓Gs.set, ↓dFor, ↓dItems, ↓dRange1, ↓dRange2, ↓dZip, ↓dRev, ↓dLc, ↓dCB, ↓cLen, ↓cAll, ↓cTuple, ↓cInt, ↓cInt1, ↓cInt2, ↓dIsi, ↓dBits, ↓dSetS, ↓dCallS, ↓oSub, ↓oAddI, ↓oMul, ↓oDiv, ↓oMod, ↓oShl, ↓oShr, ↓oPow, ↓oAnd, ↓oLt, ↓oLe, ↓oGt, ↓oGe, ↓oAbs, ↓oMax, ↓oMin, ↓dCallK, ↓cRepr, ↓cSum, ↓cMinL, ↓cMaxL, ↓cSorted, ↓cSortedD, ↓cList, ↓dListR, ↓fInD, ↓fMulL, ↓dSl, ↓oNo, ↓oSo, ↓dBy, b__law_place, fs__law_cell_of, fs__law_low, ent, svOf, List.map_cons, List.map_nil, List.cons_append, List.nil_append, List.append_nil, List.replicate, List.length_cons, List.length_nil, List.getElem?_cons_zero, List.getElem?_cons_succ, List.getElem?_nil, List.set_cons_zero, List.set_cons_succ, Option.map_some, Option.map_none, Option.isNone_some, Option.isNone_none, forall_const, true_implies, false_implies, and_true, true_and, Bool.true_eq_false, Bool.false_eq_true, reduceCtorEq, noOwn, wipeS, hide, fuN_self, lcD, dYes, Nat.zero_add, Nat.reduceAdd, Nat.reduceLeDiff, Nat.reduceSub, atI_0, atI_1, atI_2, atI_3, atI_4, atI_5, Int.one_mul, eqv_ii, eqv_ss, eqv_num, shaped_int, shaped_num, shaped_none, shaped_ru, flat_str, flat_int, flat_none, List.all_cons, List.all_nil, Bool.and_true, decide_eq_true_eq, decide_eq_false_iff_not, Bool.not_eq_true', Bool.not_eq_false', Decidable.not_not, ↓reduceIte, Bool.false_eq_true, Int.reduceLT, eqv_strs, pick_0, pick_01, pick_10, pick_012, pick_021, pick_102, pick_120, pick_201, pick_210]
  refine ⟨n, d, w, rfl, hn, bn, hd, bd, h1, h2, shlX 4000 bn (max0nn _) (by omega), shlX 4000 bd (max0nn _) (by omega), ?_⟩
  rw [max0 (0 - (cellI n d w).2), max0e (e := (cellI n d w).2)]
  refine ⟨mulX 101 9000 k2 bb (by decide), _, _, rfl, ?_, b0, bb, h⟩
  have e := pos_rest hn hd h1
  exact Int.le_trans (Int.emod_nonneg _ (Int.ne_of_gt b0)) (Int.le_of_eq e.symm)
section
variable {P : Program} {w : World} {K : Fg} {mg : Str → Option Value} {base : Heap}
theorem d__law_place (T : Tx w K mg) {cdv : Value} {A : Around} {outer : List Env} {s : Shared} {H : Hp} {E : XK} (hr : Room 2 (A.deeper (envOfC "_law_place" (defScope st__law_place) s.heap.objs.size T.f__law_place cdv))) (hgd : (A.deeper (envOfC "_law_place" (defScope st__law_place) s.heap.objs.size T.f__law_place cdv)).guards = some []) :
    PSs (cxOf CX0 P w K mg base N__law_place "_law_place" (defScope st__law_place) T.f__law_place cdv A outer s H E).nox (defBody st__law_place) (upS K b__law_place) :=
  (ss_cons (s_asg (e_call (ok__law_cell_of T) (hr.mono (by decide)) hgd (by rfl) T.g__law_cell_of T.F__law_cell_of.kp T.b__law_cell_of pass0 (a_cons (e_var 0 (pv 0)) (a_cons (e_var 1 (pv 1)) a_nil))) (g_tup rfl (gs_cons (g_name (pg_name (i := 2) sc__law_place.nd rfl (.inl rfl))) (gs_cons (g_name (pg_name (i := 3) sc__law_place.nd rfl (.inl rfl))) gs_nil))))
    (ss_cons (s_par (i := 4) (j := 5) rfl sc__law_place.nd rfl rfl (by decide) rfl rfl (e_shl (e_ix (e_var 0 (pv 0)) e_int) (e_max rfl (by rfl) T.n_max (a_cons (e_sub e_int (e_var 3 (pv 3))) (a_cons e_int a_nil)))) (e_shl (e_ix (e_var 0 (pv 0)) e_int) (e_max rfl (by rfl) T.n_max (a_cons (e_var 3 (pv 3)) (a_cons e_int a_nil)))))
    (ss_one (s_ret (e_call (ok__law_low T) (hr.mono (by decide)) hgd (by rfl) T.g__law_low T.F__law_low.kp T.b__law_low pass0 (a_cons (e_sub (e_var 4 (pv 4)) (e_mul (e_var 2 (pv 2)) (e_var 5 (pv 5)))) (a_cons (e_var 5 (pv 5)) a_nil)))))))
theorem ok__law_place (T : Tx w K mg) : Fn P w K mg base CX0 3 T.f__law_place T.fd__law_place ["_law_number_here", "_law_width"] (lift K 2 fs__law_place) := fn_data T.F__law_place sc__law_place b__law_place (fun _ _ _ _ _ _ hr hgd => d__law_place T hr hgd) p__law_place
end
--@@ _law_end
def b__law_end : DS :=
  (dRet (dCall 2 fs__law_low (dCons (dBin oShl (dVar 0) (dCB oMax (dCons (dVar 1) (dCons (dC (.int 0)) dNil)))) (dCons (dBin oShl (dC (.int 1)) (dCB oMax (dCons (dBin oSub (dC (.int 0)) (dVar 1)) (dCons (dC (.int 0)) dNil)))) dNil))))
def fs__law_end : FSp := fun rs fu post => ∃ k e : Int, rs = [.val (.int k), .val (.int e)] ∧ 0 ≤ k ∧ Bn 1000 k ∧ -5000 ≤ e ∧ e ≤ 5000 ∧ post (.val (nm (powI k e))) fu
theorem p__law_end (rs : List Rv) (fu : Option Nat) (post : Rr → Option Nat → Prop) (hl : rs.length = 2) (h : fs__law_end rs fu post) : b__law_end ⟨fun g => post (.val .none) g.fu, fun r g => post r g.fu, fun _ => False, fun _ => False⟩ (ent N__law_end rs fu) := by
  obtain ⟨k, e, rfl, hk, bk, h1, h2, h⟩ := h
  have x1 := max0le (e := 0 - e) (b := 5000) (by omega) (by decide)
  have x2 := max0le (e := e) (b := 5000) (by omega) (by decide)
  have b1 : Bn 64 1 := Bn.small (by decide) (by decide) (by decide)
  simp only [↓dSeq, ↓dAsg, ↓dSetL, ↓dNext, ↓dIfS, ↓dRet, ↓dRetL, ↓dDrop, ↓dNever, ↓dBrk, ↓dCnt, ↓dAug, ↓dPar, ↓dPar3, ↓dParL, ↓dApp, ↓dExt, ↓dVar, ↓dC, ↓dBin, ↓fI, ↓fI0, ↓fAdd, ↓fEq, ↓fNe, ↓fIn, ↓dTest, ↓dAndT, ↓dOrT, ↓dNotT, ↓dAndV, ↓dOrV, ↓dNotV, ↓dIf, ↓dNeg, ↓dIsN, ↓dChain, ↓dNil, ↓dCons, ↓dTup, ↓dLst, ↓dFz, ↓valsD, ↓dIx, ↓dCall, ↓dCallL, ↓hasSrc, ↓rrv, ↓dN, ↓dT, ↓dTn, ↓dTc, ↓rsv, ↓Gs.set, ↓dFor, ↓dItems, ↓dRange1, ↓dRange2, ↓dZip, ↓dRev, ↓dLc, ↓dCB, ↓cLen, ↓cAll, ↓cTuple, ↓cInt, ↓cInt1, ↓cInt2, ↓dIsi, ↓dBits, ↓dSetS, ↓dCallS, ↓oSub, ↓oAddI, ↓oMul, ↓oDiv, ↓oMod, ↓oShl, ↓oShr, ↓oPow, ↓oAnd, ↓oLt, ↓oLe, ↓oGt, ↓oGe, ↓oAbs, ↓oMax, ↓oMin, ↓dCallK, ↓cRepr, ↓cSum, ↓cMinL, ↓cMaxL, ↓cSorted, ↓cSortedD, ↓cList, ↓dListR, ↓fInD, ↓fMulL, ↓dSl, ↓oNo, ↓oSo, ↓dBy, b__law_end, fs__law_low, ent, svOf, List.map_cons, List.map_nil, List.cons_append, List.nil_append, List.append_nil, List.replicate, List.length_cons, List.length_nil, List.getElem?_cons_zero, List.getElem?_cons_succ, List.getElem?_nil, List.set_cons_zero, List.set_cons_succ, Option.map_some, Option.map_none, Option.isNone_some, Option.isNone_none, forall_const, true_implies, false_implies, and_true, true_and, Bool.true_eq_false, Bool.false_eq_true, reduceCtorEq, noOwn, wipeS, hide, fuN_self, lcD, dYes, Nat.zero_add, Nat.reduceAdd, Nat.reduceLeDiff, Nat.reduceSub, atI_0, atI_1, atI_2, atI_3, atI_4, atI_5, Int.one_mul, eqv_ii, eqv_ss, eqv_num, shaped_int, shaped_num, shaped_none, shaped_ru, flat_str, flat_int, flat_none, List.all_cons, List.all_nil, Bool.and_true, decide_eq_true_eq, decide_eq_false_iff_not, Bool.not_eq_true', Bool.not_eq_false', Decidable.not_not, ↓reduceIte, Bool.false_eq_true, Int.reduceLT, eqv_strs, pick_0, pick_01, pick_10, pick_012, pick_021, pick_102, pick_120, pick_201, pick_210]
  refine ⟨shlX 1000 bk (max0nn _) (by omega), shlX 64 b1 (max0nn _) (by omega), ?_⟩
  rw [max0, max0n]
  exact ⟨_, _, rfl, Int.mul_nonneg hk (Int.le_of_lt (pow2_pos _)), pow2_pos _, Bn.pow2 (by omega), by unfold powI scI at h; rw [Int.one_mul] at h; exact h⟩
section
variable {P : Program} {w : World} {K : Fg} {mg : Str → Option Value} {base : Heap}
theorem d__law_end (T : Tx w K mg) {cdv : Value} {A : Around} {outer : List Env} {s : Shared} {H : Hp} {E : XK} (hr : Room 2 (A.deeper (envOfC "_law_end" (defScope st__law_end) s.heap.objs.size T.f__law_end cdv))) (hgd : (A.deeper (envOfC "_law_end" (defScope st__law_end) s.heap.objs.size T.f__law_end cdv)).guards = some []) :
    PSs (cxOf CX0 P w K mg base N__law_end "_law_end" (defScope st__law_end) T.f__law_end cdv A outer s H E).nox (defBody st__law_end) (upS K b__law_end) :=
  (ss_one (s_ret (e_call (ok__law_low T) (hr.mono (by decide)) hgd (by rfl) T.g__law_low T.F__law_low.kp T.b__law_low pass0 (a_cons (e_shl (e_var 0 (pv 0)) (e_max rfl (by rfl) T.n_max (a_cons (e_var 1 (pv 1)) (a_cons e_int a_nil)))) (a_cons (e_shl e_int (e_max rfl (by rfl) T.n_max (a_cons (e_sub e_int (e_var 1 (pv 1))) (a_cons e_int a_nil)))) a_nil)))))
theorem ok__law_end (T : Tx w K mg) : Fn P w K mg base CX0 3 T.f__law_end T.fd__law_end ["_law_k", "_law_e"] (lift K 2 fs__law_end) := fn_data T.F__law_end sc__law_end b__law_end (fun _ _ _ _ _ _ hr hgd => d__law_end T hr hgd) p__law_end
end
--@@ _law_goes_up
def b__law_goes_up : DS :=
  (dSeq (dIfS (dTest (dBin (fIn false) (dVar 2) (dTup (dCons (dC (.str "down")) (dCons (dC (.str "up")) dNil)))))
    (dRet (dBin fEq (dVar 2) (dC (.str "up"))))
    dNext)
  (dSeq (dIfS (dTest (dBin fEq (dVar 2) (dC (.str "odd"))))
    (dRet (dBin fEq (dBin oMod (dVar 0) (dC (.int 2))) (dC (.int 0))))
    dNext)
  (dSeq (dAsg (dVar 1) (dT 2 (dTc (dN 3) (dTc (dN 4) dTn))))
  (dSeq (dIfS (dTest (dBin fNe (dBin oMul (dC (.int 2)) (dVar 3)) (dVar 4)))
    (dRet (dBin oGt (dBin oMul (dC (.int 2)) (dVar 3)) (dVar 4)))
    dNext)
  (dRet (dOrV (dBin fEq (dVar 2) (dC (.str "half_up"))) (dAndV (dBin fEq (dVar 2) (dC (.str "half_even"))) (dBin fEq (dBin oMod (dVar 0) (dC (.int 2))) (dC (.int 1))))))))))
def fs__law_goes_up : FSp := fun rs fu post => ∃ (k n d : Int) (r : Ru), rs = [.val (.int k), .val (num n d), .val (.str r.s)] ∧ Bn 10000 n ∧ post (.val (.bool (goesUp k n d r))) fu
theorem p__law_goes_up (rs : List Rv) (fu : Option Nat) (post : Rr → Option Nat → Prop) (hl : rs.length = 3) (h : fs__law_goes_up rs fu post) : b__law_goes_up ⟨fun g => post (.val .none) g.fu, fun r g => post r g.fu, fun _ => False, fun _ => False⟩ (ent N__law_goes_up rs fu) := by
  obtain ⟨k, n, d, r, rfl, bn, h⟩ := h
  have hm : CMulX 2 n := mulX 64 10000 (Bn.small (by decide) (by decide) (by decide)) bn (by decide)
  have sh : ∀ r : Ru, SeqAt.shaped (.str r.s) = true := shaped_ru
  have s1 := sh .dn
  have s2 := sh .hd
  have s3 := sh .he
  have s4 := sh .hu
  have s5 := sh .od
  have s6 := sh .up
  simp only [Ru.s] at s1 s2 s3 s4 s5 s6
  cases r <;> simp only [Ru.s, goesUp] at h ⊢ <;> (simp (decide := true) only [↓dSeq, ↓dAsg, ↓dSetL, ↓dNext, ↓dIfS, ↓dRet, ↓dRetL, ↓dDrop, ↓dNever, ↓dBrk, ↓dCnt, ↓dAug, ↓dPar, ↓dPar3, ↓dParL, ↓dApp, ↓dExt, ↓dVar, ↓dC, ↓dBin, ↓fI, ↓fI0, ↓fAdd, ↓fEq, ↓fNe, ↓fIn, ↓dTest, ↓dAndT, ↓dOrT, ↓dNotT, ↓dAndV, ↓dOrV, ↓dNotV, ↓dIf, ↓dNeg, ↓dIsN, ↓dChain, ↓dNil, ↓dCons, ↓dTup, ↓dLst, ↓dFz, ↓valsD, ↓dIx, ↓dCall, ↓dCallL, ↓hasSrc, ↓rrv, ↓dN, ↓dT, ↓dTn, ↓dTc, ↓rsv, ↓Gs.set, ↓dFor, ↓dItems, ↓dRange1, ↓dRange2, ↓dZip, ↓dRev, ↓dLc, ↓dCB, ↓cLen, ↓cAll, ↓cTuple, ↓cInt, ↓cInt1, ↓cInt2, ↓dIsi, ↓dBits, ↓dSetS, ↓dCallS, ↓oSub, ↓oAddI, ↓oMul, ↓oDiv, ↓oMod, ↓oShl, ↓oShr, ↓oPow, ↓oAnd, ↓oLt, ↓oLe, ↓oGt, ↓oGe, ↓oAbs, ↓oMax, ↓oMin, ↓dCallK, ↓cRepr, ↓cSum, ↓cMinL, ↓cMaxL, ↓cSorted, ↓cSortedD, ↓cList, ↓dListR, ↓fInD, ↓fMulL, ↓dSl, ↓oNo, ↓oSo, ↓dBy, b__law_goes_up, s1, s2, s3, s4, s5, s6, inD, List.any_cons, List.any_nil, Bool.or_false, Bool.or_true, Bool.false_or, decide_true, decide_false, ent, svOf, List.map_cons, List.map_nil, List.cons_append, List.nil_append, List.append_nil, List.replicate, List.length_cons, List.length_nil, List.getElem?_cons_zero, List.getElem?_cons_succ, List.getElem?_nil, List.set_cons_zero, List.set_cons_succ, Option.map_some, Option.map_none, Option.isNone_some, Option.isNone_none, forall_const, true_implies, false_implies, and_true, true_and, Bool.true_eq_false, Bool.false_eq_true, reduceCtorEq, noOwn, wipeS, hide, fuN_self, lcD, dYes, Nat.zero_add, Nat.reduceAdd, Nat.reduceLeDiff, Nat.reduceSub, atI_0, atI_1, atI_2, atI_3, atI_4, atI_5, Int.one_mul, eqv_ii, eqv_ss, eqv_num, shaped_int, shaped_num, shaped_none, shaped_ru, flat_str, flat_int, flat_none, List.all_cons, List.all_nil, Bool.and_true, decide_eq_true_eq, decide_eq_false_iff_not, Bool.not_eq_true', Bool.not_eq_false', Decidable.not_not, ↓reduceIte, Bool.false_eq_true, Int.reduceLT, eqv_strs, pick_0, pick_01, pick_10, pick_012, pick_021, pick_102, pick_120, pick_201, pick_210])
  · exact h
  · refine ⟨hm, fun _ => ⟨hm, h⟩, fun z => ?_⟩
    rw [decide_eq_false (by omega)] at h
    exact h
  · refine ⟨hm, fun z => ⟨hm, ?_⟩, fun z => ?_⟩
    · rw [if_neg z] at h; exact h
    · rw [if_pos z] at h; exact h
  · refine ⟨hm, fun z => ⟨hm, ?_⟩, fun z => ?_⟩
    · rw [show decide (d ≤ 2 * n) = decide (d < 2 * n) by rw [decide_eq_decide]; omega] at h
      exact h
    · rw [decide_eq_true (by omega)] at h
      exact h
  · exact h
  · exact h
section
variable {P : Program} {w : World} {K : Fg} {mg : Str → Option Value} {base : Heap}
theorem d__law_goes_up (T : Tx w K mg) {cdv : Value} {A : Around} {outer : List Env} {s : Shared} {H : Hp} {E : XK} (hr : Room 0 (A.deeper (envOfC "_law_goes_up" (defScope st__law_goes_up) s.heap.objs.size T.f__law_goes_up cdv))) (hgd : (A.deeper (envOfC "_law_goes_up" (defScope st__law_goes_up) s.heap.objs.size T.f__law_goes_up cdv)).guards = some []) :
    PSs (cxOf CX0 P w K mg base N__law_goes_up "_law_goes_up" (defScope st__law_goes_up) T.f__law_goes_up cdv A outer s H E).nox (defBody st__law_goes_up) (upS K b__law_goes_up) :=
  (ss_cons (s_if (t_in (e_var 2 (pv 2)) (e_tup (a_cons e_str (a_cons e_str a_nil)))) (ss_one (s_ret (e_eq hr.units (e_var 2 (pv 2)) e_str))) ss_nil)
    (ss_cons (s_if (t_eq hr.units (e_var 2 (pv 2)) e_str) (ss_one (s_ret (e_eq hr.units (e_mod (e_var 0 (pv 0)) e_int) e_int))) ss_nil)
    (ss_cons (s_asg (e_var 1 (pv 1)) (g_tup rfl (gs_cons (g_name (pg_name (i := 3) sc__law_goes_up.nd rfl (.inl rfl))) (gs_cons (g_name (pg_name (i := 4) sc__law_goes_up.nd rfl (.inl rfl))) gs_nil))))
    (ss_cons (s_if (t_ne hr.units (e_mul e_int (e_var 3 (pv 3))) (e_var 4 (pv 4))) (ss_one (s_ret (e_gt (e_mul e_int (e_var 3 (pv 3))) (e_var 4 (pv 4))))) ss_nil)
    (ss_one (s_ret (e_or (e_eq hr.units (e_var 2 (pv 2)) e_str) (e_one (e_and (e_eq hr.units (e_var 2 (pv 2)) e_str) (e_one (e_eq hr.units (e_mod (e_var 0 (pv 0)) e_int) e_int)))))))))))
theorem ok__law_goes_up (T : Tx w K mg) : Fn P w K mg base CX0 1 T.f__law_goes_up T.fd__law_goes_up ["_law_k", "_law_place_here", "_law_rule_here"] (lift K 3 fs__law_goes_up) := fn_data T.F__law_goes_up sc__law_goes_up b__law_goes_up (fun _ _ _ _ _ _ hr hgd => d__law_goes_up T hr hgd) p__law_goes_up
end
--@@ _law_rounded
def b__law_rounded : DS :=
  (dSeq (dAsg (dCall 2 fs__law_cell_of (dCons (dVar 0) (dCons (dVar 1) dNil))) (dT 2 (dTc (dN 3) (dTc (dN 4) dTn))))
  (dSeq (dAsg (dCall 2 fs__law_place (dCons (dVar 0) (dCons (dVar 1) dNil))) (dN 5))
  (dSeq (dIfS (dTest (dBin fEq (dVar 5) (dTup (dCons (dC (.int 0)) (dCons (dC (.int 1)) dNil)))))
    (dRet (dVar 0))
    dNext)
  (dRet (dCall 2 fs__law_end (dCons (dBin fAdd (dVar 3) (dCB cInt (dCons (dCall 3 fs__law_goes_up (dCons (dVar 3) (dCons (dVar 5) (dCons (dVar 2) dNil)))) dNil))) (dCons (dVar 4) dNil)))))))
def fs__law_rounded : FSp := fun rs fu post => ∃ (n d w : Int) (r : Ru), rs = [.val (num n d), .val (.int w), .val (.str r.s)] ∧ 0 < n ∧ Bn 4000 n ∧ 0 < d ∧ Bn 4000 d ∧ 1 ≤ w ∧ w ≤ 100 ∧ post (.val (nm (roundI n d w r))) fu
theorem p__law_rounded (rs : List Rv) (fu : Option Nat) (post : Rr → Option Nat → Prop) (hl : rs.length = 3) (h : fs__law_rounded rs fu post) : b__law_rounded ⟨fun g => post (.val .none) g.fu, fun r g => post r g.fu, fun _ => False, fun _ => False⟩ (ent N__law_rounded rs fu) := by
  obtain ⟨n, d, w, r, rfl, hn, bn, hd, bd, h1, h2, h⟩ := h
  obtain ⟨c1, c2⟩ := cell_e hn bn hd bd h1 h2
  obtain ⟨k1, k2⟩ := cell_kB hn hd h1 h2
  have hp := pos_one hn hd h1
  simp only [↓dSeq, ↓dAsg, ↓dSetL, ↓dNext, ↓dIfS, ↓dRet, ↓dRetL, ↓dDrop, ↓dNever, ↓dBrk, ↓dCnt, ↓dAug, ↓dPar, ↓dPar3, ↓dParL, ↓dApp, ↓dExt, ↓dVar, ↓dC, ↓dBin, ↓fI, ↓fI0, ↓fAdd, ↓fEq, ↓fNe, ↓fIn, ↓dTest, ↓dAndT, ↓dOrT, ↓dNotT, ↓dAndV, ↓dOrV, ↓dNotV, ↓dIf, ↓dNeg, ↓dIsN, ↓dChain, ↓dNil, ↓dCons, ↓dTup, ↓dLst, ↓dFz, ↓valsD, ↓dIx, ↓dCall, ↓dCallL, ↓hasSrc, ↓rrv, ↓dN, ↓dT, ↓dTn, ↓dTc, ↓rsv, ↓Gs.set, ↓dFor, ↓dItems, ↓dRange1, ↓dRange2, ↓dZip, ↓dRev, ↓dLc, ↓dCB, ↓cLen, ↓cAll, ↓cTuple, ↓cInt, ↓cInt1, ↓cInt2, ↓dIsi, ↓dBits, ↓dSetS, ↓dCallS, ↓oSub, ↓oAddI, ↓oMul, ↓oDiv, ↓oMod, ↓oShl, ↓oShr, ↓oPow, ↓oAnd, ↓oLt, ↓oLe, ↓oGt, ↓oGe, ↓oAbs, ↓oMax, ↓oMin, ↓dCallK, ↓cRepr, ↓cSum, ↓cMinL, ↓cMaxL, ↓cSorted, ↓cSortedD, ↓cList, ↓dListR, ↓fInD, ↓fMulL, ↓dSl, ↓oNo, ↓oSo, ↓dBy, b__law_rounded, fs__law_cell_of, fs__law_place, fs__law_goes_up, fs__law_end, ent, svOf, List.map_cons, List.map_nil, List.cons_append, List.nil_append, List.append_nil, List.replicate, List.length_cons, List.length_nil, List.getElem?_cons_zero, List.getElem?_cons_succ, List.getElem?_nil, List.set_cons_zero, List.set_cons_succ, Option.map_some, Option.map_none, Option.isNone_some, Option.isNone_none, forall_const, true_implies, false_implies, and_true, true_and, Bool.true_eq_false, Bool.false_eq_true, reduceCtorEq, noOwn, wipeS, hide, fuN_self, lcD, dYes, Nat.zero_add, Nat.reduceAdd, Nat.reduceLeDiff, Nat.reduceSub, atI_0, atI_1, atI_2, atI_3, atI_4, atI_5, Int.one_mul, eqv_ii, eqv_ss, eqv_num, shaped_int, shaped_num, shaped_none, shaped_ru, flat_str, flat_int, flat_none, List.all_cons, List.all_nil, Bool.and_true, decide_eq_true_eq, decide_eq_false_iff_not, Bool.not_eq_true', Bool.not_eq_false', Decidable.not_not, ↓reduceIte, Bool.false_eq_true, Int.reduceLT, eqv_strs, pick_0, pick_01, pick_10, pick_012, pick_021, pick_102, pick_120, pick_201, pick_210]
  refine ⟨n, d, w, rfl, hn, bn, hd, bd, h1, h2, n, d, w, rfl, hn, bn, hd, bd, h1, h2, fun hz => ?_, fun hz => ?_⟩
  · have e : roundI n d w r = (n, d) := by
      have e1 : endsI n d w = ((n, d), (n, d)) := if_pos (by simp at hz; exact hz.1)
      unfold roundI
      rw [e1]
      split <;> rfl
    rw [e] at h
    exact h
  · have hz : ¬(posI n d w).1 = 0 := fun z => by
      rw [hp.mp z] at hz
      simp at hz
    refine ⟨_, _, _, r, rfl, (pos_B hn bn hd bd h1 h2).2.mono (by decide), ?_⟩
    have e : roundI n d w r = powI ((cellI n d w).1 + (if goesUp (cellI n d w).1 (posI n d w).1 (posI n d w).2 r then 1 else 0)) (cellI n d w).2 := by
      have e1 : endsI n d w = (powI (cellI n d w).1 (cellI n d w).2, powI ((cellI n d w).1 + 1) (cellI n d w).2) := if_neg hz
      unfold roundI
      rw [e1]
      split <;> simp
    rw [e] at h
    cases hg : goesUp (cellI n d w).1 (posI n d w).1 (posI n d w).2 r <;> rw [hg] at h
    · simp only [↓dSeq, ↓dAsg, ↓dSetL, ↓dNext, ↓dIfS, ↓dRet, ↓dRetL, ↓dDrop, ↓dNever, ↓dBrk, ↓dCnt, ↓dAug, ↓dPar, ↓dPar3, ↓dParL, ↓dApp, ↓dExt, ↓dVar, ↓dC, ↓dBin, ↓fI, ↓fI0, ↓fAdd, ↓fEq, ↓fNe, ↓fIn, ↓dTest, ↓dAndT, ↓dOrT, ↓dNotT, ↓dAndV, ↓dOrV, ↓dNotV, ↓dIf, ↓dNeg, ↓dIsN, ↓dChain, ↓dNil, ↓dCons, ↓dTup, ↓dLst, ↓dFz, ↓valsD, ↓dIx, ↓dCall, ↓dCallL, ↓hasSrc, ↓rrv, ↓dN, ↓dT, ↓dTn, ↓dTc, ↓rsv, ↓Gs.set, ↓dFor, ↓dItems, ↓dRange1, ↓dRange2, ↓dZip, ↓dRev, ↓dLc, ↓dCB, ↓cLen, ↓cAll, ↓cTuple, ↓cInt, ↓cInt1, ↓cInt2, ↓dIsi, ↓dBits, ↓dSetS, ↓dCallS, ↓oSub, ↓oAddI, ↓oMul, ↓oDiv, ↓oMod, ↓oShl, ↓oShr, ↓oPow, ↓oAnd, ↓oLt, ↓oLe, ↓oGt, ↓oGe, ↓oAbs, ↓oMax, ↓oMin, ↓dCallK, ↓cRepr, ↓cSum, ↓cMinL, ↓cMaxL, ↓cSorted, ↓cSortedD, ↓cList, ↓dListR, ↓fInD, ↓fMulL, ↓dSl, ↓oNo, ↓oSo, ↓dBy, ent, svOf, List.map_cons, List.map_nil, List.cons_append, List.nil_append, List.append_nil, List.replicate, List.length_cons, List.length_nil, List.getElem?_cons_zero, List.getElem?_cons_succ, List.getElem?_nil, List.set_cons_zero, List.set_cons_succ, Option.map_some, Option.map_none, Option.isNone_some, Option.isNone_none, forall_const, true_implies, false_implies, and_true, true_and, Bool.true_eq_false, Bool.false_eq_true, reduceCtorEq, noOwn, wipeS, hide, fuN_self, lcD, dYes, Nat.zero_add, Nat.reduceAdd, Nat.reduceLeDiff, Nat.reduceSub, atI_0, atI_1, atI_2, atI_3, atI_4, atI_5, Int.one_mul, eqv_ii, eqv_ss, eqv_num, shaped_int, shaped_num, shaped_none, shaped_ru, flat_str, flat_int, flat_none, List.all_cons, List.all_nil, Bool.and_true, decide_eq_true_eq, decide_eq_false_iff_not, Bool.not_eq_true', Bool.not_eq_false', Decidable.not_not, ↓reduceIte, Bool.false_eq_true, Int.reduceLT, eqv_strs, pick_0, pick_01, pick_10, pick_012, pick_021, pick_102, pick_120, pick_201, pick_210]
      exact ⟨_, _, rfl, by first | omega | (simp; omega), by first | exact k2.mono (by decide) | (simp; exact k2.mono (by decide)), by omega, by omega, h⟩
    · simp only [↓dSeq, ↓dAsg, ↓dSetL, ↓dNext, ↓dIfS, ↓dRet, ↓dRetL, ↓dDrop, ↓dNever, ↓dBrk, ↓dCnt, ↓dAug, ↓dPar, ↓dPar3, ↓dParL, ↓dApp, ↓dExt, ↓dVar, ↓dC, ↓dBin, ↓fI, ↓fI0, ↓fAdd, ↓fEq, ↓fNe, ↓fIn, ↓dTest, ↓dAndT, ↓dOrT, ↓dNotT, ↓dAndV, ↓dOrV, ↓dNotV, ↓dIf, ↓dNeg, ↓dIsN, ↓dChain, ↓dNil, ↓dCons, ↓dTup, ↓dLst, ↓dFz, ↓valsD, ↓dIx, ↓dCall, ↓dCallL, ↓hasSrc, ↓rrv, ↓dN, ↓dT, ↓dTn, ↓dTc, ↓rsv, ↓Gs.set, ↓dFor, ↓dItems, ↓dRange1, ↓dRange2, ↓dZip, ↓dRev, ↓dLc, ↓dCB, ↓cLen, ↓cAll, ↓cTuple, ↓cInt, ↓cInt1, ↓cInt2, ↓dIsi, ↓dBits, ↓dSetS, ↓dCallS, ↓oSub, ↓oAddI, ↓oMul, ↓oDiv, ↓oMod, ↓oShl, ↓oShr, ↓oPow, ↓oAnd, ↓oLt, ↓oLe, ↓oGt, ↓oGe, ↓oAbs, ↓oMax, ↓oMin, ↓dCallK, ↓cRepr, ↓cSum, ↓cMinL, ↓cMaxL, ↓cSorted, ↓cSortedD, ↓cList, ↓dListR, ↓fInD, ↓fMulL, ↓dSl, ↓oNo, ↓oSo, ↓dBy, ent, svOf, List.map_cons, List.map_nil, List.cons_append, List.nil_append, List.append_nil, List.replicate, List.length_cons, List.length_nil, List.getElem?_cons_zero, List.getElem?_cons_succ, List.getElem?_nil, List.set_cons_zero, List.set_cons_succ, Option.map_some, Option.map_none, Option.isNone_some, Option.isNone_none, forall_const, true_implies, false_implies, and_true, true_and, Bool.true_eq_false, Bool.false_eq_true, reduceCtorEq, noOwn, wipeS, hide, fuN_self, lcD, dYes, Nat.zero_add, Nat.reduceAdd, Nat.reduceLeDiff, Nat.reduceSub, atI_0, atI_1, atI_2, atI_3, atI_4, atI_5, Int.one_mul, eqv_ii, eqv_ss, eqv_num, shaped_int, shaped_num, shaped_none, shaped_ru, flat_str, flat_int, flat_none, List.all_cons, List.all_nil, Bool.and_true, decide_eq_true_eq, decide_eq_false_iff_not, Bool.not_eq_true', Bool.not_eq_false', Decidable.not_not, ↓reduceIte, Bool.false_eq_true, Int.reduceLT, eqv_strs, pick_0, pick_01, pick_10, pick_012, pick_021, pick_102, pick_120, pick_201, pick_210]
      exact ⟨_, _, rfl, by first | omega | (simp; omega), by first | exact ((k2.add (Bn.small (by decide) (by decide) (by decide))).mono (by decide)) | (simp; exact ((k2.add (Bn.small (by decide) (by decide) (by decide))).mono (by decide))), by omega, by omega, h⟩
section
variable {P : Program} {w : World} {K : Fg} {mg : Str → Option Value} {base : Heap}
theorem d__law_rounded (T : Tx w K mg) {cdv : Value} {A : Around} {outer : List Env} {s : Shared} {H : Hp} {E : XK} (hr : Room 3 (A.deeper (envOfC "_law_rounded" (defScope st__law_rounded) s.heap.objs.size T.f__law_rounded cdv))) (hgd : (A.deeper (envOfC "_law_rounded" (defScope st__law_rounded) s.heap.objs.size T.f__law_rounded cdv)).guards = some []) :
    PSs (cxOf CX0 P w K mg base N__law_rounded "_law_rounded" (defScope st__law_rounded) T.f__law_rounded cdv A outer s H E).nox (defBody st__law_rounded) (upS K b__law_rounded) :=
  (ss_cons (s_asg (e_call (ok__law_cell_of T) (hr.mono (by decide)) hgd (by rfl) T.g__law_cell_of T.F__law_cell_of.kp T.b__law_cell_of pass0 (a_cons (e_var 0 (pv 0)) (a_cons (e_var 1 (pv 1)) a_nil))) (g_tup rfl (gs_cons (g_name (pg_name (i := 3) sc__law_rounded.nd rfl (.inl rfl))) (gs_cons (g_name (pg_name (i := 4) sc__law_rounded.nd rfl (.inl rfl))) gs_nil))))
    (ss_cons (s_set (i := 5) sc__law_rounded.nd rfl (.inl rfl) (e_call (ok__law_place T) (hr.mono (by decide)) hgd (by rfl) T.g__law_place T.F__law_place.kp T.b__law_place pass0 (a_cons (e_var 0 (pv 0)) (a_cons (e_var 1 (pv 1)) a_nil))))
    (ss_cons (s_if (t_eq hr.units (e_var 5 (pv 5)) (e_tup (a_cons e_int (a_cons e_int a_nil)))) (ss_one (s_ret (e_var 0 (pv 0)))) ss_nil)
    (ss_one (s_ret (e_call (ok__law_end T) (hr.mono (by decide)) hgd (by rfl) T.g__law_end T.F__law_end.kp T.b__law_end pass0 (a_cons (e_add (e_var 3 (pv 3)) (e_toint (by rfl) T.n_int (a_cons (e_call (ok__law_goes_up T) (hr.mono (by decide)) hgd (by rfl) T.g__law_goes_up T.F__law_goes_up.kp T.b__law_goes_up pass0 (a_cons (e_var 3 (pv 3)) (a_cons (e_var 5 (pv 5)) (a_cons (e_var 2 (pv 2)) a_nil)))) a_nil))) (a_cons (e_var 4 (pv 4)) a_nil))))))))
theorem ok__law_rounded (T : Tx w K mg) : Fn P w K mg base CX0 4 T.f__law_rounded T.fd__law_rounded ["_law_number_here", "_law_width", "_law_rule_here"] (lift K 3 fs__law_rounded) := fn_data T.F__law_rounded sc__law_rounded b__law_rounded (fun _ _ _ _ _ _ hr hgd => d__law_rounded T hr hgd) p__law_rounded
end
--@@ _law_rule
def b__law_rule : DS :=
  (dRet (dCall 2 fs__law_pick (dCons (dVar 0) (dCons (dFz (dLst (dCons (dC (.str "down")) (dCons (dC (.str "half_down")) (dCons (dC (.str "half_even")) (dCons (dC (.str "half_up")) (dCons (dC (.str "odd")) (dCons (dC (.str "up")) dNil)))))))) dNil))))
def ruD : List Da := [.str "down", .str "half_down", .str "half_even", .str "half_up", .str "odd", .str "up"]
theorem ru_memD {x : Da} (h : x ∈ ruD) : ∃ r : Ru, x = .str r.s := by
  simp only [ruD, List.mem_cons, List.not_mem_nil, or_false] at h
  rcases h with rfl | rfl | rfl | rfl | rfl | rfl
  · exact ⟨.dn, rfl⟩
  · exact ⟨.hd, rfl⟩
  · exact ⟨.he, rfl⟩
  · exact ⟨.hu, rfl⟩
  · exact ⟨.od, rfl⟩
  · exact ⟨.up, rfl⟩
def fs__law_rule : FSp := fun rs fu post => ∃ m : Nat, rs = [.src] ∧ fu = some (m + 1) ∧ ∀ r : Ru, post (.val (.str r.s)) (some m)
theorem p__law_rule (rs : List Rv) (fu : Option Nat) (post : Rr → Option Nat → Prop) (hl : rs.length = 1) (h : fs__law_rule rs fu post) : b__law_rule ⟨fun g => post (.val .none) g.fu, fun r g => post r g.fu, fun _ => False, fun _ => False⟩ (ent N__law_rule rs fu) := by
  obtain ⟨m, rfl, rfl, h⟩ := h
  simp only [↓dSeq, ↓dAsg, ↓dSetL, ↓dNext, ↓dIfS, ↓dRet, ↓dRetL, ↓dDrop, ↓dNever, ↓dBrk, ↓dCnt, ↓dAug, ↓dPar, ↓dPar3, ↓dParL, ↓dApp, ↓dExt, ↓dVar, ↓dC, ↓dBin, ↓fI, ↓fI0, ↓fAdd, ↓fEq, ↓fNe, ↓fIn, ↓dTest, ↓dAndT, ↓dOrT, ↓dNotT, ↓dAndV, ↓dOrV, ↓dNotV, ↓dIf, ↓dNeg, ↓dIsN, ↓dChain, ↓dNil, ↓dCons, ↓dTup, ↓dLst, ↓dFz, ↓valsD, ↓dIx, ↓dCall, ↓dCallL, ↓hasSrc, ↓rrv, ↓dN, ↓dT, ↓dTn, ↓dTc, ↓rsv, ↓Gs.set, ↓dFor, ↓dItems, ↓dRange1, ↓dRange2, ↓dZip, ↓dRev, ↓dLc, ↓dCB, ↓cLen, ↓cAll, ↓cTuple, ↓cInt, ↓cInt1, ↓cInt2, ↓dIsi, ↓dBits, ↓dSetS, ↓dCallS, ↓oSub, ↓oAddI, ↓oMul, ↓oDiv, ↓oMod, ↓oShl, ↓oShr, ↓oPow, ↓oAnd, ↓oLt, ↓oLe, ↓oGt, ↓oGe, ↓oAbs, ↓oMax, ↓oMin, ↓dCallK, ↓cRepr, ↓cSum, ↓cMinL, ↓cMaxL, ↓cSorted, ↓cSortedD, ↓cList, ↓dListR, ↓fInD, ↓fMulL, ↓dSl, ↓oNo, ↓oSo, ↓dBy, b__law_rule, fs__law_pick, ent, svOf, List.map_cons, List.map_nil, List.cons_append, List.nil_append, List.append_nil, List.replicate, List.length_cons, List.length_nil, List.getElem?_cons_zero, List.getElem?_cons_succ, List.getElem?_nil, List.set_cons_zero, List.set_cons_succ, Option.map_some, Option.map_none, Option.isNone_some, Option.isNone_none, forall_const, true_implies, false_implies, and_true, true_and, Bool.true_eq_false, Bool.false_eq_true, reduceCtorEq, noOwn, wipeS, hide, fuN_self, lcD, dYes, Nat.zero_add, Nat.reduceAdd, Nat.reduceLeDiff, Nat.reduceSub, atI_0, atI_1, atI_2, atI_3, atI_4, atI_5, Int.one_mul, eqv_ii, eqv_ss, eqv_num, shaped_int, shaped_num, shaped_none, shaped_ru, flat_str, flat_int, flat_none, List.all_cons, List.all_nil, Bool.and_true, decide_eq_true_eq, decide_eq_false_iff_not, Bool.not_eq_true', Bool.not_eq_false', Decidable.not_not, ↓reduceIte, Bool.false_eq_true, Int.reduceLT, eqv_strs, pick_0, pick_01, pick_10, pick_012, pick_021, pick_102, pick_120, pick_201, pick_210]
  refine ⟨_, m, rfl, rfl, by show 0 < 6; decide, by show 6 < 1000000; decide, fun v hv => ?_⟩
  obtain ⟨r, rfl⟩ := ru_memD hv
  exact h r
section
variable {P : Program} {w : World} {K : Fg} {mg : Str → Option Value} {base : Heap}
theorem d__law_rule (T : Tx w K mg) {cdv : Value} {A : Around} {outer : List Env} {s : Shared} {H : Hp} {E : XK} (hr : Room 2 (A.deeper (envOfC "_law_rule" (defScope st__law_rule) s.heap.objs.size T.f__law_rule cdv))) (hgd : (A.deeper (envOfC "_law_rule" (defScope st__law_rule) s.heap.objs.size T.f__law_rule cdv)).guards = some []) :
    PSs (cxOf CX0 P w K mg base N__law_rule "_law_rule" (defScope st__law_rule) T.f__law_rule cdv A outer s H E).nox (defBody st__law_rule) (upS K b__law_rule) :=
  (ss_one (s_ret (e_call (ok__law_pick T) (hr.mono (by decide)) hgd (by rfl) T.g__law_pick T.F__law_pick.kp T.b__law_pick pass0 (a_cons (e_var 0 (pv 0)) (a_cons (e_fz (e_lstL (a_cons e_str (a_cons e_str (a_cons e_str (a_cons e_str (a_cons e_str (a_cons e_str a_nil)))))))) a_nil)))))
theorem ok__law_rule (T : Tx w K mg) : Fn P w K mg base CX0 3 T.f__law_rule T.fd__law_rule ["_law_source_here"] (lift K 1 fs__law_rule) := fn_data T.F__law_rule sc__law_rule b__law_rule (fun _ _ _ _ _ _ hr hgd => d__law_rule T hr hgd) p__law_rule
end
--@@ _law_chain
def b__law_chain : DS :=
  (dSeq (dSetL 4 (dLst (dCons (dTup (dCons (dVar 1) (dCons (dCall 1 fs__law_rule (dCons (dVar 0) dNil)) dNil))) dNil)))
  (dSeq (dFor (dRange1 (dCall 2 fs__law_draw (dCons (dVar 0) (dCons (dVar 2) dNil)))) (dN 5)
    (dApp 4 (dTup (dCons (dBin fAdd (dBin fAdd (dVar 1) (dC (.int 1))) (dCall 2 fs__law_draw (dCons (dVar 0) (dCons (dVar 3) dNil)))) (dCons (dCall 1 fs__law_rule (dCons (dVar 0) dNil)) dNil)))))
  (dSeq (dIfS (dTest (dBin oGt (dCall 2 fs__law_draw (dCons (dVar 0) (dCons (dC (.int 4)) dNil))) (dC (.int 0))))
    (dSeq (dAsg (dCB cSortedD (dCons (dFz (dLc [7, 8] (dItems (dVar 4)) (dT 2 (dTc (dN 7) (dTc (dN 8) dTn))) dYes (dTup (dCons (dBin oSub (dC (.int 0)) (dVar 7)) (dCons (dVar 8) dNil))))) dNil)) (dN 6))
  (dRet (dCB cTuple (dCons (dFz (dLc [7, 8] (dItems (dVar 6)) (dT 2 (dTc (dN 7) (dTc (dN 8) dTn))) dYes (dTup (dCons (dBin oSub (dC (.int 0)) (dVar 7)) (dCons (dVar 8) dNil))))) dNil))))
    dNext)
  (dRet (dCB cTuple (dCons (dBin fAdd (dSl (dVar 4) (oSo (dC (.int 1))) oNo) (dSl (dVar 4) oNo (oSo (dC (.int 1))))) dNil))))))
/-- what a drawn chain is: its least width is last -/
structure Drc (last far most : Int) (c : List (Int × Ru)) : Prop where
  r : ∀ s ∈ c, last ≤ s.1 ∧ s.1 ≤ last + far
  l : ∃ s ∈ c, s.1 = last
  n : (c.length : Int) ≤ most
theorem Drc.chn {last far most : Int} {c : List (Int × Ru)} (h : Drc last far most c) (h1 : 1 ≤ last) (h2 : last + far ≤ 100) (h3 : most ≤ 12) : Chn1 c := by
  obtain ⟨s, hs, _⟩ := h.l
  have := h.n
  refine ⟨fun e => ?_, by omega, fun t ht => by have := h.r t ht; omega⟩
  rw [e] at hs
  exact absurd hs (by simp)
theorem Drc.wid {last far most : Int} {c : List (Int × Ru)} (h : Drc last far most c) : (chT c).1 = last := by
  obtain ⟨s, hs, e⟩ := h.l
  obtain ⟨m1, t, ht, m2⟩ := chT_min (c := c) (fun e => absurd hs (by rw [e]; simp))
  have a := m1 s hs
  have b := h.r t ht
  omega
theorem Drc.perm {last far most : Int} {c c' : List (Int × Ru)} (h : Drc last far most c) (h1 : ∀ s ∈ c', s ∈ c) (h2 : ∀ s ∈ c, s ∈ c') (h3 : c'.length = c.length) : Drc last far most c' := by
  obtain ⟨s, hs, e⟩ := h.l
  have := h.n
  exact ⟨fun t ht => h.r t (h1 t ht), ⟨s, h2 s hs, e⟩, by omega⟩
def ngD (s : Int × Ru) : Da := .tuple [.int (0 - s.1), .str s.2.s]
theorem ngD_inj {s s' : Int × Ru} (h : ngD s = ngD s') : s = s' := by
  obtain ⟨w, r⟩ := s
  obtain ⟨w', r'⟩ := s'
  simp only [ngD, PyData.tuple.injEq, List.cons.injEq, PyData.int.injEq, PyData.str.injEq, and_true] at h
  have e : stD (w, r) = stD (w', r') := by
    simp only [stD, PyData.tuple.injEq, List.cons.injEq, PyData.int.injEq, PyData.str.injEq, and_true]
    exact ⟨by omega, h.2⟩
  exact stD_inj e
theorem from_perm {f : Int × Ru → Da} {c : List (Int × Ru)} : ∀ {ds : List Da}, (∀ d ∈ ds, d ∈ c.map f) → ∃ c' : List (Int × Ru), ds = c'.map f ∧ ∀ s ∈ c', s ∈ c
  | [], _ => ⟨[], rfl, fun s hs => absurd hs (by simp)⟩
  | d :: ds, h => by
    obtain ⟨c', rfl, h2⟩ := from_perm (ds := ds) fun e he => h e (List.mem_cons_of_mem _ he)
    obtain ⟨s, hs, rfl⟩ := List.mem_map.mp (h d List.mem_cons_self)
    refine ⟨s :: c', rfl, fun t ht => ?_⟩
    rcases List.mem_cons.mp ht with rfl | ht
    · exact hs
    · exact h2 t ht
theorem cut_tl {ds : List Da} (h : 1 ≤ ds.length) : Z.cutD ds (some 1) none = ds.drop 1 := by
  unfold Z.cutD
  have e1 : HT.sIx ds.length 0 (some 1) = 1 := by
    show (if (1 : Int) < 0 then ((1 : Int) + (ds.length : Int)).toNat else min (1 : Int).toNat ds.length) = 1
    rw [if_neg (by decide)]
    simp
    omega
  rw [e1, HT.sIx_none, List.take_of_length_le (by rw [List.length_drop]; omega)]
theorem cut_hd {ds : List Da} (h : 1 ≤ ds.length) : Z.cutD ds none (some 1) = ds.take 1 := by
  unfold Z.cutD
  have e1 : HT.sIx ds.length ds.length (some 1) = 1 := by
    show (if (1 : Int) < 0 then ((1 : Int) + (ds.length : Int)).toNat else min (1 : Int).toNat ds.length) = 1
    rw [if_neg (by decide)]
    simp
    omega
  rw [e1, HT.sIx_none]
  rfl
def fs__law_chain : FSp := fun rs fu post => ∃ (last most far : Int) (m : Nat), rs = [.src, .val (.int last), .val (.int most), .val (.int far)] ∧ fu = some m ∧ 1 ≤ last ∧ 1 ≤ most ∧ most ≤ 12 ∧ 1 ≤ far ∧ last + far ≤ 100 ∧ 30 ≤ m ∧
  ∀ (c : List (Int × Ru)) (m' : Nat), m ≤ m' + 30 → Drc last far most c → post (.val (chD c)) (some m')
def lcF : DS := (dFor (dRange1 (dCall 2 fs__law_draw (dCons (dVar 0) (dCons (dVar 2) dNil)))) (dN 5)
    (dApp 4 (dTup (dCons (dBin fAdd (dBin fAdd (dVar 1) (dC (.int 1))) (dCall 2 fs__law_draw (dCons (dVar 0) (dCons (dVar 3) dNil)))) (dCons (dCall 1 fs__law_rule (dCons (dVar 0) dNil)) dNil)))))
def lcE : DS := (dSeq (dIfS (dTest (dBin oGt (dCall 2 fs__law_draw (dCons (dVar 0) (dCons (dC (.int 4)) dNil))) (dC (.int 0))))
    (dSeq (dAsg (dCB cSortedD (dCons (dFz (dLc [7, 8] (dItems (dVar 4)) (dT 2 (dTc (dN 7) (dTc (dN 8) dTn))) dYes (dTup (dCons (dBin oSub (dC (.int 0)) (dVar 7)) (dCons (dVar 8) dNil))))) dNil)) (dN 6))
  (dRet (dCB cTuple (dCons (dFz (dLc [7, 8] (dItems (dVar 6)) (dT 2 (dTc (dN 7) (dTc (dN 8) dTn))) dYes (dTup (dCons (dBin oSub (dC (.int 0)) (dVar 7)) (dCons (dVar 8) dNil))))) dNil))))
    dNext)
  (dRet (dCB cTuple (dCons (dBin fAdd (dSl (dVar 4) (oSo (dC (.int 1))) oNo) (dSl (dVar 4) oNo (oSo (dC (.int 1))))) dNil))))
def negD : Da → Da
  | .tuple [.int i, x] => .tuple [.int (0 - i), x]
  | d => d
theorem p_lcE {D : DEnds} {last most far : Int} {m : Nat} {t f w r : Option Sv} {c : List (Int × Ru)} (hc : Drc last far most c) (hl : c.length ≤ 100)
    (h : ∀ (c : List (Int × Ru)) (g : Gs), g.fu = some m → Drc last far most c → D.rt (.val (chD c)) g) :
    lcE D ⟨[some .src, some (.val (.int last)), some (.val (.int most)), some (.val (.int far)), some (.own (c.map stD)), t, f, w, r], some (m + 1), false⟩ := by
  have c1 : 1 ≤ (c.map stD).length := by
    obtain ⟨s, hs, _⟩ := hc.l
    rw [List.length_map]
    exact List.length_pos_iff.mpr (fun e => absurd hs (by rw [e]; simp))
  simp only [↓dSeq, ↓dAsg, ↓dSetL, ↓dNext, ↓dIfS, ↓dRet, ↓dRetL, ↓dDrop, ↓dNever, ↓dBrk, ↓dCnt, ↓dAug, ↓dPar, ↓dPar3, ↓dParL, ↓dApp, ↓dExt, ↓dVar, ↓dC, ↓dBin, ↓fI, ↓fI0, ↓fAdd, ↓fEq, ↓fNe, ↓fIn, ↓dTest, ↓dAndT, ↓dOrT, ↓dNotT, ↓dAndV, ↓dOrV, ↓dNotV, ↓dIf, ↓dNeg, ↓dIsN, ↓dChain, ↓dNil, ↓dCons, ↓dTup, ↓dLst, ↓dFz, ↓valsD, ↓dIx, ↓dCall, ↓dCallL, ↓hasSrc, ↓rrv, ↓dN, ↓dT, ↓dTn, ↓dTc, ↓rsv, ↓Gs.set, ↓dFor, ↓dItems, ↓dRange1, ↓dRange2, ↓dZip, ↓dRev, ↓dLc, ↓dCB, ↓cLen, ↓cAll, ↓cTuple, ↓cInt, ↓cInt1, ↓cInt2, ↓dIsi, ↓dBits, ↓dSetS, ↓dCallS, ↓oSub, ↓oAddI, ↓oMul, ↓oDiv, ↓oMod, ↓oShl, ↓oShr, ↓oPow, ↓oAnd, ↓oLt, ↓oLe, ↓oGt, ↓oGe, ↓oAbs, ↓oMax, ↓oMin, ↓dCallK, ↓cRepr, ↓cSum, ↓cMinL, ↓cMaxL, ↓cSorted, ↓cSortedD, ↓cList, ↓dListR, ↓fInD, ↓fMulL, ↓dSl, ↓oNo, ↓oSo, ↓dBy, lcE, fs__law_draw, ent, svOf, List.map_cons, List.map_nil, List.cons_append, List.nil_append, List.append_nil, List.replicate, List.length_cons, List.length_nil, List.getElem?_cons_zero, List.getElem?_cons_succ, List.getElem?_nil, List.set_cons_zero, List.set_cons_succ, Option.map_some, Option.map_none, Option.isNone_some, Option.isNone_none, forall_const, true_implies, false_implies, and_true, true_and, Bool.true_eq_false, Bool.false_eq_true, reduceCtorEq, noOwn, wipeS, hide, fuN_self, lcD, dYes, Nat.zero_add, Nat.reduceAdd, Nat.reduceLeDiff, Nat.reduceSub, atI_0, atI_1, atI_2, atI_3, atI_4, atI_5, Int.one_mul, eqv_ii, eqv_ss, eqv_num, shaped_int, shaped_num, shaped_none, shaped_ru, flat_str, flat_int, flat_none, List.all_cons, List.all_nil, Bool.and_true, decide_eq_true_eq, decide_eq_false_iff_not, Bool.not_eq_true', Bool.not_eq_false', Decidable.not_not, ↓reduceIte, Bool.false_eq_true, Int.reduceLT, eqv_strs, pick_0, pick_01, pick_10, pick_012, pick_021, pick_102, pick_120, pick_201, pick_210]
  refine ⟨_, m, rfl, rfl, by decide, Bn.small (by decide) (by decide) (by decide), fun i i0 i1 => ⟨fun _ => ?_, fun _ => ?_⟩⟩
  · refine lc_mapT negD (fun x hx R N hR => ?_) (by simp; omega) ?_
    · obtain ⟨s, hs, rfl⟩ := List.mem_map.mp hx
      unfold stD at hR ⊢
      simp only [↓dSeq, ↓dAsg, ↓dSetL, ↓dNext, ↓dIfS, ↓dRet, ↓dRetL, ↓dDrop, ↓dNever, ↓dBrk, ↓dCnt, ↓dAug, ↓dPar, ↓dPar3, ↓dParL, ↓dApp, ↓dExt, ↓dVar, ↓dC, ↓dBin, ↓fI, ↓fI0, ↓fAdd, ↓fEq, ↓fNe, ↓fIn, ↓dTest, ↓dAndT, ↓dOrT, ↓dNotT, ↓dAndV, ↓dOrV, ↓dNotV, ↓dIf, ↓dNeg, ↓dIsN, ↓dChain, ↓dNil, ↓dCons, ↓dTup, ↓dLst, ↓dFz, ↓valsD, ↓dIx, ↓dCall, ↓dCallL, ↓hasSrc, ↓rrv, ↓dN, ↓dT, ↓dTn, ↓dTc, ↓rsv, ↓Gs.set, ↓dFor, ↓dItems, ↓dRange1, ↓dRange2, ↓dZip, ↓dRev, ↓dLc, ↓dCB, ↓cLen, ↓cAll, ↓cTuple, ↓cInt, ↓cInt1, ↓cInt2, ↓dIsi, ↓dBits, ↓dSetS, ↓dCallS, ↓oSub, ↓oAddI, ↓oMul, ↓oDiv, ↓oMod, ↓oShl, ↓oShr, ↓oPow, ↓oAnd, ↓oLt, ↓oLe, ↓oGt, ↓oGe, ↓oAbs, ↓oMax, ↓oMin, ↓dCallK, ↓cRepr, ↓cSum, ↓cMinL, ↓cMaxL, ↓cSorted, ↓cSortedD, ↓cList, ↓dListR, ↓fInD, ↓fMulL, ↓dSl, ↓oNo, ↓oSo, ↓dBy, ent, svOf, List.map_cons, List.map_nil, List.cons_append, List.nil_append, List.append_nil, List.replicate, List.length_cons, List.length_nil, List.getElem?_cons_zero, List.getElem?_cons_succ, List.getElem?_nil, List.set_cons_zero, List.set_cons_succ, Option.map_some, Option.map_none, Option.isNone_some, Option.isNone_none, forall_const, true_implies, false_implies, and_true, true_and, Bool.true_eq_false, Bool.false_eq_true, reduceCtorEq, noOwn, wipeS, hide, fuN_self, lcD, dYes, Nat.zero_add, Nat.reduceAdd, Nat.reduceLeDiff, Nat.reduceSub, atI_0, atI_1, atI_2, atI_3, atI_4, atI_5, Int.one_mul, eqv_ii, eqv_ss, eqv_num, shaped_int, shaped_num, shaped_none, shaped_ru, flat_str, flat_int, flat_none, List.all_cons, List.all_nil, Bool.and_true, decide_eq_true_eq, decide_eq_false_iff_not, Bool.not_eq_true', Bool.not_eq_false', Decidable.not_not, ↓reduceIte, Bool.false_eq_true, Int.reduceLT, eqv_strs, pick_0, pick_01, pick_10, pick_012, pick_021, pick_102, pick_120, pick_201, pick_210]
      exact hR _ rfl
    · have e : List.map negD (c.map stD) = c.map ngD := by
        rw [List.map_map]
        rfl
      rw [List.nil_append, e]
      obtain ⟨a1, a2, a3⟩ := pairs_sortable (ds := c.map ngD) fun d hd => by
        obtain ⟨s, hs, rfl⟩ := List.mem_map.mp hd
        exact ⟨_, _, rfl, ru_ok _⟩
      refine ⟨a1, a2, a3, fun ds' pm => ?_⟩
      obtain ⟨c', rfl, hm⟩ := from_perm fun d hd => pm.mem_iff.mp hd
      have hlen : c'.length = c.length := by
        have := pm.length_eq
        rw [List.length_map, List.length_map] at this
        exact this
      have hm' : ∀ s ∈ c, s ∈ c' := fun s hs => by
        obtain ⟨s', hs', e⟩ := List.mem_map.mp (pm.mem_iff.mpr (List.mem_map_of_mem (f := ngD) hs))
        rw [← ngD_inj e]
        exact hs'
      try simp only [↓dSeq, ↓dAsg, ↓dSetL, ↓dNext, ↓dIfS, ↓dRet, ↓dRetL, ↓dDrop, ↓dNever, ↓dBrk, ↓dCnt, ↓dAug, ↓dPar, ↓dPar3, ↓dParL, ↓dApp, ↓dExt, ↓dVar, ↓dC, ↓dBin, ↓fI, ↓fI0, ↓fAdd, ↓fEq, ↓fNe, ↓fIn, ↓dTest, ↓dAndT, ↓dOrT, ↓dNotT, ↓dAndV, ↓dOrV, ↓dNotV, ↓dIf, ↓dNeg, ↓dIsN, ↓dChain, ↓dNil, ↓dCons, ↓dTup, ↓dLst, ↓dFz, ↓valsD, ↓dIx, ↓dCall, ↓dCallL, ↓hasSrc, ↓rrv, ↓dN, ↓dT, ↓dTn, ↓dTc, ↓rsv, ↓Gs.set, ↓dFor, ↓dItems, ↓dRange1, ↓dRange2, ↓dZip, ↓dRev, ↓dLc, ↓dCB, ↓cLen, ↓cAll, ↓cTuple, ↓cInt, ↓cInt1, ↓cInt2, ↓dIsi, ↓dBits, ↓dSetS, ↓dCallS, ↓oSub, ↓oAddI, ↓oMul, ↓oDiv, ↓oMod, ↓oShl, ↓oShr, ↓oPow, ↓oAnd, ↓oLt, ↓oLe, ↓oGt, ↓oGe, ↓oAbs, ↓oMax, ↓oMin, ↓dCallK, ↓cRepr, ↓cSum, ↓cMinL, ↓cMaxL, ↓cSorted, ↓cSortedD, ↓cList, ↓dListR, ↓fInD, ↓fMulL, ↓dSl, ↓oNo, ↓oSo, ↓dBy, ent, svOf, List.map_cons, List.map_nil, List.cons_append, List.nil_append, List.append_nil, List.replicate, List.length_cons, List.length_nil, List.getElem?_cons_zero, List.getElem?_cons_succ, List.getElem?_nil, List.set_cons_zero, List.set_cons_succ, Option.map_some, Option.map_none, Option.isNone_some, Option.isNone_none, forall_const, true_implies, false_implies, and_true, true_and, Bool.true_eq_false, Bool.false_eq_true, reduceCtorEq, noOwn, wipeS, hide, fuN_self, lcD, dYes, Nat.zero_add, Nat.reduceAdd, Nat.reduceLeDiff, Nat.reduceSub, atI_0, atI_1, atI_2, atI_3, atI_4, atI_5, Int.one_mul, eqv_ii, eqv_ss, eqv_num, shaped_int, shaped_num, shaped_none, shaped_ru, flat_str, flat_int, flat_none, List.all_cons, List.all_nil, Bool.and_true, decide_eq_true_eq, decide_eq_false_iff_not, Bool.not_eq_true', Bool.not_eq_false', Decidable.not_not, ↓reduceIte, Bool.false_eq_true, Int.reduceLT, eqv_strs, pick_0, pick_01, pick_10, pick_012, pick_021, pick_102, pick_120, pick_201, pick_210]
      refine lc_mapT negD (fun x hx R N hR => ?_) (by simp; omega) ?_
      · obtain ⟨s, hs, rfl⟩ := List.mem_map.mp hx
        unfold ngD at hR ⊢
        simp only [↓dSeq, ↓dAsg, ↓dSetL, ↓dNext, ↓dIfS, ↓dRet, ↓dRetL, ↓dDrop, ↓dNever, ↓dBrk, ↓dCnt, ↓dAug, ↓dPar, ↓dPar3, ↓dParL, ↓dApp, ↓dExt, ↓dVar, ↓dC, ↓dBin, ↓fI, ↓fI0, ↓fAdd, ↓fEq, ↓fNe, ↓fIn, ↓dTest, ↓dAndT, ↓dOrT, ↓dNotT, ↓dAndV, ↓dOrV, ↓dNotV, ↓dIf, ↓dNeg, ↓dIsN, ↓dChain, ↓dNil, ↓dCons, ↓dTup, ↓dLst, ↓dFz, ↓valsD, ↓dIx, ↓dCall, ↓dCallL, ↓hasSrc, ↓rrv, ↓dN, ↓dT, ↓dTn, ↓dTc, ↓rsv, ↓Gs.set, ↓dFor, ↓dItems, ↓dRange1, ↓dRange2, ↓dZip, ↓dRev, ↓dLc, ↓dCB, ↓cLen, ↓cAll, ↓cTuple, ↓cInt, ↓cInt1, ↓cInt2, ↓dIsi, ↓dBits, ↓dSetS, ↓dCallS, ↓oSub, ↓oAddI, ↓oMul, ↓oDiv, ↓oMod, ↓oShl, ↓oShr, ↓oPow, ↓oAnd, ↓oLt, ↓oLe, ↓oGt, ↓oGe, ↓oAbs, ↓oMax, ↓oMin, ↓dCallK, ↓cRepr, ↓cSum, ↓cMinL, ↓cMaxL, ↓cSorted, ↓cSortedD, ↓cList, ↓dListR, ↓fInD, ↓fMulL, ↓dSl, ↓oNo, ↓oSo, ↓dBy, ent, svOf, List.map_cons, List.map_nil, List.cons_append, List.nil_append, List.append_nil, List.replicate, List.length_cons, List.length_nil, List.getElem?_cons_zero, List.getElem?_cons_succ, List.getElem?_nil, List.set_cons_zero, List.set_cons_succ, Option.map_some, Option.map_none, Option.isNone_some, Option.isNone_none, forall_const, true_implies, false_implies, and_true, true_and, Bool.true_eq_false, Bool.false_eq_true, reduceCtorEq, noOwn, wipeS, hide, fuN_self, lcD, dYes, Nat.zero_add, Nat.reduceAdd, Nat.reduceLeDiff, Nat.reduceSub, atI_0, atI_1, atI_2, atI_3, atI_4, atI_5, Int.one_mul, eqv_ii, eqv_ss, eqv_num, shaped_int, shaped_num, shaped_none, shaped_ru, flat_str, flat_int, flat_none, List.all_cons, List.all_nil, Bool.and_true, decide_eq_true_eq, decide_eq_false_iff_not, Bool.not_eq_true', Bool.not_eq_false', Decidable.not_not, ↓reduceIte, Bool.false_eq_true, Int.reduceLT, eqv_strs, pick_0, pick_01, pick_10, pick_012, pick_021, pick_102, pick_120, pick_201, pick_210]
        exact hR _ rfl
      · have e : List.map negD (c'.map ngD) = c'.map stD := by
          rw [List.map_map]
          refine List.map_congr_left fun s hs => ?_
          show PyData.tuple [.int (0 - (0 - s.1)), _] = PyData.tuple [.int s.1, _]
          rw [show 0 - (0 - s.1) = s.1 by omega]
        rw [List.nil_append, e]
        exact h c' _ rfl (hc.perm hm hm' hlen)
  · rw [cut_tl c1, cut_hd c1, ← List.map_drop, ← List.map_take, ← List.map_append]
    refine ⟨by simp only [List.length_map, List.length_append, List.length_drop, List.length_take, sizeLine_eq]; omega, ?_⟩
    refine h (c.drop 1 ++ c.take 1) _ rfl (hc.perm (fun s hs => ?_) (fun s hs => ?_) ?_)
    · rcases List.mem_append.mp hs with q | q
      · exact List.mem_of_mem_drop q
      · exact List.mem_of_mem_take q
    · rw [← List.take_append_drop 1 c] at hs
      rcases List.mem_append.mp hs with q | q
      · exact List.mem_append_right _ q
      · exact List.mem_append_left _ q
    · rw [List.length_append, List.length_drop, List.length_take]
      rw [List.length_map] at c1
      omega
theorem p__law_chain (rs : List Rv) (fu : Option Nat) (post : Rr → Option Nat → Prop) (hl : rs.length = 4) (h : fs__law_chain rs fu post) : b__law_chain ⟨fun g => post (.val .none) g.fu, fun r g => post r g.fu, fun _ => False, fun _ => False⟩ (ent N__law_chain rs fu) := by
  obtain ⟨last, most, far, m0, rfl, rfl, h1, h2, h3, h4, h5, hm, h⟩ := h
  obtain ⟨m, rfl⟩ : ∃ m, m0 = m + 30 := ⟨m0 - 30, by omega⟩
  show dSeq _ (dSeq lcF lcE) _ _
  simp only [↓dSeq, ↓dAsg, ↓dSetL, ↓dNext, ↓dIfS, ↓dRet, ↓dRetL, ↓dDrop, ↓dNever, ↓dBrk, ↓dCnt, ↓dAug, ↓dPar, ↓dPar3, ↓dParL, ↓dApp, ↓dExt, ↓dVar, ↓dC, ↓dBin, ↓fI, ↓fI0, ↓fAdd, ↓fEq, ↓fNe, ↓fIn, ↓dTest, ↓dAndT, ↓dOrT, ↓dNotT, ↓dAndV, ↓dOrV, ↓dNotV, ↓dIf, ↓dNeg, ↓dIsN, ↓dChain, ↓dNil, ↓dCons, ↓dTup, ↓dLst, ↓dFz, ↓valsD, ↓dIx, ↓dCall, ↓dCallL, ↓hasSrc, ↓rrv, ↓dN, ↓dT, ↓dTn, ↓dTc, ↓rsv, ↓Gs.set, ↓dFor, ↓dItems, ↓dRange1, ↓dRange2, ↓dZip, ↓dRev, ↓dLc, ↓dCB, ↓cLen, ↓cAll, ↓cTuple, ↓cInt, ↓cInt1, ↓cInt2, ↓dIsi, ↓dBits, ↓dSetS, ↓dCallS, ↓oSub, ↓oAddI, ↓oMul, ↓oDiv, ↓oMod, ↓oShl, ↓oShr, ↓oPow, ↓oAnd, ↓oLt, ↓oLe, ↓oGt, ↓oGe, ↓oAbs, ↓oMax, ↓oMin, ↓dCallK, ↓cRepr, ↓cSum, ↓cMinL, ↓cMaxL, ↓cSorted, ↓cSortedD, ↓cList, ↓dListR, ↓fInD, ↓fMulL, ↓dSl, ↓oNo, ↓oSo, ↓dBy, lcF, fs__law_draw, fs__law_rule, ent, svOf, List.map_cons, List.map_nil, List.cons_append, List.nil_append, List.append_nil, List.replicate, List.length_cons, List.length_nil, List.getElem?_cons_zero, List.getElem?_cons_succ, List.getElem?_nil, List.set_cons_zero, List.set_cons_succ, Option.map_some, Option.map_none, Option.isNone_some, Option.isNone_none, forall_const, true_implies, false_implies, and_true, true_and, Bool.true_eq_false, Bool.false_eq_true, reduceCtorEq, noOwn, wipeS, hide, fuN_self, lcD, dYes, Nat.zero_add, Nat.reduceAdd, Nat.reduceLeDiff, Nat.reduceSub, atI_0, atI_1, atI_2, atI_3, atI_4, atI_5, Int.one_mul, eqv_ii, eqv_ss, eqv_num, shaped_int, shaped_num, shaped_none, shaped_ru, flat_str, flat_int, flat_none, List.all_cons, List.all_nil, Bool.and_true, decide_eq_true_eq, decide_eq_false_iff_not, Bool.not_eq_true', Bool.not_eq_false', Decidable.not_not, ↓reduceIte, Bool.false_eq_true, Int.reduceLT, eqv_strs, pick_0, pick_01, pick_10, pick_012, pick_021, pick_102, pick_120, pick_201, pick_210]
  refine ⟨m + 29, rfl, fun r0 => ⟨most, m + 28, rfl, rfl, by omega, Bn.small (by omega) (by omega) (by decide), fun i i0 i1 => ⟨by omega, by omega, ?_⟩⟩⟩
  refine forD_ix (k := 0) (fun k g => ∃ (c : List (Int × Ru)) (m' : Nat) (t f w r : Option Sv), g = ⟨[some .src, some (.val (.int last)), some (.val (.int most)), some (.val (.int far)), some (.own (c.map stD)), t, f, w, r], some m', false⟩ ∧ m + 28 ≤ m' + 2 * k ∧ c.length = k + 1 ∧ (∀ s ∈ c, last ≤ s.1 ∧ s.1 ≤ last + far) ∧ ∃ s ∈ c, s.1 = last) (fun k x hx g hg N hN => ?_) (fun g hg => ?_) ⟨[(last, r0)], m + 28, _, _, _, _, rfl, by omega, rfl, fun s hs => ?_, (last, r0), List.mem_cons_self, rfl⟩
  · obtain ⟨c, m', t, f, w, r, rfl, q1, q2, q3, q4⟩ := hg
    have hk : k < 12 := by
      have := (List.getElem?_eq_some_iff.mp hx).1
      rw [rangeD_len] at this
      omega
    obtain ⟨m1, rfl⟩ : ∃ m1, m' = m1 + 2 := ⟨m' - 2, by omega⟩
    simp only [↓dSeq, ↓dAsg, ↓dSetL, ↓dNext, ↓dIfS, ↓dRet, ↓dRetL, ↓dDrop, ↓dNever, ↓dBrk, ↓dCnt, ↓dAug, ↓dPar, ↓dPar3, ↓dParL, ↓dApp, ↓dExt, ↓dVar, ↓dC, ↓dBin, ↓fI, ↓fI0, ↓fAdd, ↓fEq, ↓fNe, ↓fIn, ↓dTest, ↓dAndT, ↓dOrT, ↓dNotT, ↓dAndV, ↓dOrV, ↓dNotV, ↓dIf, ↓dNeg, ↓dIsN, ↓dChain, ↓dNil, ↓dCons, ↓dTup, ↓dLst, ↓dFz, ↓valsD, ↓dIx, ↓dCall, ↓dCallL, ↓hasSrc, ↓rrv, ↓dN, ↓dT, ↓dTn, ↓dTc, ↓rsv, ↓Gs.set, ↓dFor, ↓dItems, ↓dRange1, ↓dRange2, ↓dZip, ↓dRev, ↓dLc, ↓dCB, ↓cLen, ↓cAll, ↓cTuple, ↓cInt, ↓cInt1, ↓cInt2, ↓dIsi, ↓dBits, ↓dSetS, ↓dCallS, ↓oSub, ↓oAddI, ↓oMul, ↓oDiv, ↓oMod, ↓oShl, ↓oShr, ↓oPow, ↓oAnd, ↓oLt, ↓oLe, ↓oGt, ↓oGe, ↓oAbs, ↓oMax, ↓oMin, ↓dCallK, ↓cRepr, ↓cSum, ↓cMinL, ↓cMaxL, ↓cSorted, ↓cSortedD, ↓cList, ↓dListR, ↓fInD, ↓fMulL, ↓dSl, ↓oNo, ↓oSo, ↓dBy, fs__law_draw, fs__law_rule, ent, svOf, List.map_cons, List.map_nil, List.cons_append, List.nil_append, List.append_nil, List.replicate, List.length_cons, List.length_nil, List.getElem?_cons_zero, List.getElem?_cons_succ, List.getElem?_nil, List.set_cons_zero, List.set_cons_succ, Option.map_some, Option.map_none, Option.isNone_some, Option.isNone_none, forall_const, true_implies, false_implies, and_true, true_and, Bool.true_eq_false, Bool.false_eq_true, reduceCtorEq, noOwn, wipeS, hide, fuN_self, lcD, dYes, Nat.zero_add, Nat.reduceAdd, Nat.reduceLeDiff, Nat.reduceSub, atI_0, atI_1, atI_2, atI_3, atI_4, atI_5, Int.one_mul, eqv_ii, eqv_ss, eqv_num, shaped_int, shaped_num, shaped_none, shaped_ru, flat_str, flat_int, flat_none, List.all_cons, List.all_nil, Bool.and_true, decide_eq_true_eq, decide_eq_false_iff_not, Bool.not_eq_true', Bool.not_eq_false', Decidable.not_not, ↓reduceIte, Bool.false_eq_true, Int.reduceLT, eqv_strs, pick_0, pick_01, pick_10, pick_012, pick_021, pick_102, pick_120, pick_201, pick_210]
    refine ⟨⟨_, rfl⟩, far, m1 + 1, rfl, rfl, by omega, Bn.small (by omega) (by omega) (by decide), fun j j0 j1 => ⟨m1, rfl, fun r1 => ⟨by rw [List.length_map]; omega, ?_⟩⟩⟩
    refine hN _ ⟨c ++ [(last + 1 + j, r1)], m1, some (.val x), f, w, r, ?_, by omega, by rw [List.length_append]; simp; omega, fun s hs => ?_, ?_⟩
    · rw [List.map_append]
      rfl
    · rcases List.mem_append.mp hs with hs | hs
      · exact q3 s hs
      · rcases List.mem_cons.mp hs with rfl | hs
        · exact ⟨by show last ≤ last + 1 + j; omega, by show last + 1 + j ≤ last + far; omega⟩
        · exact absurd hs (by simp)
    · obtain ⟨s, hs, e⟩ := q4
      exact ⟨s, List.mem_append_left _ hs, e⟩
  · obtain ⟨c, m', t, f, w, r, rfl, q1, q2, q3, q4⟩ := hg
    rw [rangeD_len] at q1 q2
    obtain ⟨m1, rfl⟩ : ∃ m1, m' = m1 + 1 := ⟨m' - 1, by omega⟩
    refine p_lcE ⟨q3, q4, by omega⟩ (by omega) fun c' g e hc' => ?_
    have := h c' m1 (by omega) hc'
    rw [← e] at this
    exact this
  · rcases List.mem_cons.mp hs with rfl | hs
    · exact ⟨Int.le_refl _, by show last ≤ last + far; omega⟩
    · exact absurd hs (by simp)
section
variable {P : Program} {w : World} {K : Fg} {mg : Str → Option Value} {base : Heap}
theorem d__law_chain (T : Tx w K mg) {cdv : Value} {A : Around} {outer : List Env} {s : Shared} {H : Hp} {E : XK} (hr : Room 3 (A.deeper (envOfC "_law_chain" (defScope st__law_chain) s.heap.objs.size T.f__law_chain cdv))) (hgd : (A.deeper (envOfC "_law_chain" (defScope st__law_chain) s.heap.objs.size T.f__law_chain cdv)).guards = some []) :
    PSs (cxOf CX0 P w K mg base N__law_chain "_law_chain" (defScope st__law_chain) T.f__law_chain cdv A outer s H E).nox (defBody st__law_chain) (upS K b__law_chain) :=
  (ss_cons (s_setL (i := 4) sc__law_chain.nd rfl (.inl rfl) (e_lstL (a_cons (e_tup (a_cons (e_var 1 (pv 1)) (a_cons (e_call (ok__law_rule T) (hr.mono (by decide)) hgd (by rfl) T.g__law_rule T.F__law_rule.kp T.b__law_rule pass0 (a_cons (e_var 0 (pv 0)) a_nil)) a_nil))) a_nil)))
    (ss_cons (s_for PassesOwn.never rfl (i_range1 (by rfl) T.n_range (e_call (ok__law_draw T) (hr.mono (by decide)) hgd (by rfl) T.g__law_draw T.F__law_draw.kp T.b__law_draw pass0 (a_cons (e_var 0 (pv 0)) (a_cons (e_var 2 (pv 2)) a_nil)))) (g_name (pg_name (i := 5) sc__law_chain.nd rfl (.inl rfl))) (ss_one (s_app (name := "x") (pv 4) (e_tup (a_cons (e_add (e_add (e_var 1 (pv 1)) e_int) (e_call (ok__law_draw T) (hr.mono (by decide)) hgd (by rfl) T.g__law_draw T.F__law_draw.kp T.b__law_draw pass0 (a_cons (e_var 0 (pv 0)) (a_cons (e_var 3 (pv 3)) a_nil)))) (a_cons (e_call (ok__law_rule T) (hr.mono (by decide)) hgd (by rfl) T.g__law_rule T.F__law_rule.kp T.b__law_rule pass0 (a_cons (e_var 0 (pv 0)) a_nil)) a_nil))) (fun h => pe_bm PySem.F.plainAttrs_list PySem.F.slot_list_append PySem.F.type_list_append mt_append (pv 4) h))))
    (ss_cons (s_if (t_gt (e_call (ok__law_draw T) (hr.mono (by decide)) hgd (by rfl) T.g__law_draw T.F__law_draw.kp T.b__law_draw pass0 (a_cons (e_var 0 (pv 0)) (a_cons e_int a_nil))) e_int) (ss_cons (s_set (i := 6) sc__law_chain.nd rfl (.inl rfl) (e_sortedD hr (by rfl) T.n_sorted (a_cons (e_fz (e_lc (own := [("_law_width", 7), ("_law_rule_here", 8)]) rfl sc__law_chain.nd (i_items (e_var 4 (pv 4))) (blkOk_by (own := [("_law_width", 7), ("_law_rule_here", 8)]) (N := N__law_chain) (sc := defScope st__law_chain) (by decide +kernel)) (fun _ _ _ _ _ => (gw_tup rfl rfl (gsw_cons (gw_name rfl (pg_name (i := 7) sc__law_chain.nd rfl (.inl rfl)) (by decide)) (gsw_cons (gw_name rfl (pg_name (i := 8) sc__law_chain.nd rfl (.inl rfl)) (by decide)) gsw_nil)))) (fun _ _ _ _ _ => ts_yes) (fun _ _ _ _ _ => (e_tup (a_cons (e_sub e_int (e_var 7 (pv 7))) (a_cons (e_var 8 (pv 8)) a_nil)))))) a_nil)))
    (ss_one (s_ret (e_tuple (by rfl) T.n_tuple (a_cons (e_fz (e_lc (own := [("_law_width", 7), ("_law_rule_here", 8)]) rfl sc__law_chain.nd (i_items (e_var 6 (pv 6))) (blkOk_by (own := [("_law_width", 7), ("_law_rule_here", 8)]) (N := N__law_chain) (sc := defScope st__law_chain) (by decide +kernel)) (fun _ _ _ _ _ => (gw_tup rfl rfl (gsw_cons (gw_name rfl (pg_name (i := 7) sc__law_chain.nd rfl (.inl rfl)) (by decide)) (gsw_cons (gw_name rfl (pg_name (i := 8) sc__law_chain.nd rfl (.inl rfl)) (by decide)) gsw_nil)))) (fun _ _ _ _ _ => ts_yes) (fun _ _ _ _ _ => (e_tup (a_cons (e_sub e_int (e_var 7 (pv 7))) (a_cons (e_var 8 (pv 8)) a_nil)))))) a_nil))))) ss_nil)
    (ss_one (s_ret (e_tuple (by rfl) T.n_tuple (a_cons (e_add (e_sl (e_var 4 (pv 4)) (o_some e_int) o_none) (e_sl (e_var 4 (pv 4)) o_none (o_some e_int))) a_nil)))))))
theorem ok__law_chain (T : Tx w K mg) : Fn P w K mg base CX0 4 T.f__law_chain T.fd__law_chain ["_law_source_here", "_law_last", "_law_most", "_law_far"] (lift K 4 fs__law_chain) := fn_data T.F__law_chain sc__law_chain b__law_chain (fun _ _ _ _ _ _ hr hgd => d__law_chain T hr hgd) p__law_chain
end
--@@ _law_applied
def b__law_applied : DS :=
  (dSeq (dFor (dItems (dVar 1)) (dT 2 (dTc (dN 2) (dTc (dN 3) dTn)))
    (dAsg (dCall 3 fs__law_rounded (dCons (dVar 0) (dCons (dVar 2) (dCons (dVar 3) dNil)))) (dN 0)))
  (dRet (dVar 0)))
def fs__law_applied : FSp := fun rs fu post => ∃ (n d : Int) (c : List (Int × Ru)), rs = [.val (num n d), .val (chD c)] ∧ NuB 1000 n d ∧ Chn1 c ∧ post (.val (nm (applI n d c))) fu
def laB : DS := (dAsg (dCall 3 fs__law_rounded (dCons (dVar 0) (dCons (dVar 2) (dCons (dVar 3) dNil)))) (dN 0))
theorem p_laB {D : DEnds} {x : Option Sv} {fu : Option Nat} : ∀ {c : List (Int × Ru)} {n d : Int} {y z : Option Sv}, Wds c → NuB 1000 n d →
    (∀ (y z : Option Sv), D.nx ⟨[some (.val (nm (applI n d c))), x, y, z], fu, fu.isNone⟩) →
    forD (dT 2 (dTc (dN 2) (dTc (dN 3) dTn))) laB (c.map stD) D ⟨[some (.val (num n d)), x, y, z], fu, fu.isNone⟩
  | [], n, d, y, z, _, _, h => h y z
  | s :: c, n, d, y, z, hw, hn, h => by
    obtain ⟨w1, w2⟩ := hw.hd
    have ih := p_laB (D := D) (x := x) (fu := fu) (c := c) (n := (roundI n d s.1 s.2).1) (d := (roundI n d s.1 s.2).2) (y := some (.val (.int s.1))) (z := some (.val (.str s.2.s))) hw.tl (hn.round s.2 w1 w2) h
    show dT 2 _ (.val (stD s)) _ _
    unfold stD
    simp only [↓dSeq, ↓dAsg, ↓dSetL, ↓dNext, ↓dIfS, ↓dRet, ↓dRetL, ↓dDrop, ↓dNever, ↓dBrk, ↓dCnt, ↓dAug, ↓dPar, ↓dPar3, ↓dParL, ↓dApp, ↓dExt, ↓dVar, ↓dC, ↓dBin, ↓fI, ↓fI0, ↓fAdd, ↓fEq, ↓fNe, ↓fIn, ↓dTest, ↓dAndT, ↓dOrT, ↓dNotT, ↓dAndV, ↓dOrV, ↓dNotV, ↓dIf, ↓dNeg, ↓dIsN, ↓dChain, ↓dNil, ↓dCons, ↓dTup, ↓dLst, ↓dFz, ↓valsD, ↓dIx, ↓dCall, ↓dCallL, ↓hasSrc, ↓rrv, ↓dN, ↓dT, ↓dTn, ↓dTc, ↓rsv, ↓Gs.set, ↓dFor, ↓dItems, ↓dRange1, ↓dRange2, ↓dZip, ↓dRev, ↓dLc, ↓dCB, ↓cLen, ↓cAll, ↓cTuple, ↓cInt, ↓cInt1, ↓cInt2, ↓dIsi, ↓dBits, ↓dSetS, ↓dCallS, ↓oSub, ↓oAddI, ↓oMul, ↓oDiv, ↓oMod, ↓oShl, ↓oShr, ↓oPow, ↓oAnd, ↓oLt, ↓oLe, ↓oGt, ↓oGe, ↓oAbs, ↓oMax, ↓oMin, ↓dCallK, ↓cRepr, ↓cSum, ↓cMinL, ↓cMaxL, ↓cSorted, ↓cSortedD, ↓cList, ↓dListR, ↓fInD, ↓fMulL, ↓dSl, ↓oNo, ↓oSo, ↓dBy, laB, fs__law_rounded, ent, svOf, List.map_cons, List.map_nil, List.cons_append, List.nil_append, List.append_nil, List.replicate, List.length_cons, List.length_nil, List.getElem?_cons_zero, List.getElem?_cons_succ, List.getElem?_nil, List.set_cons_zero, List.set_cons_succ, Option.map_some, Option.map_none, Option.isNone_some, Option.isNone_none, forall_const, true_implies, false_implies, and_true, true_and, Bool.true_eq_false, Bool.false_eq_true, reduceCtorEq, noOwn, wipeS, hide, fuN_self, lcD, dYes, Nat.zero_add, Nat.reduceAdd, Nat.reduceLeDiff, Nat.reduceSub, atI_0, atI_1, atI_2, atI_3, atI_4, atI_5, Int.one_mul, eqv_ii, eqv_ss, eqv_num, shaped_int, shaped_num, shaped_none, shaped_ru, flat_str, flat_int, flat_none, List.all_cons, List.all_nil, Bool.and_true, decide_eq_true_eq, decide_eq_false_iff_not, Bool.not_eq_true', Bool.not_eq_false', Decidable.not_not, ↓reduceIte, Bool.false_eq_true, Int.reduceLT, eqv_strs, pick_0, pick_01, pick_10, pick_012, pick_021, pick_102, pick_120, pick_201, pick_210]
    exact ⟨n, d, s.1, s.2, rfl, hn.nu.n0, hn.bn.mono (by decide), hn.nu.d0, hn.bd.mono (by decide), w1, w2, ih⟩
theorem p__law_applied (rs : List Rv) (fu : Option Nat) (post : Rr → Option Nat → Prop) (hl : rs.length = 2) (h : fs__law_applied rs fu post) : b__law_applied ⟨fun g => post (.val .none) g.fu, fun r g => post r g.fu, fun _ => False, fun _ => False⟩ (ent N__law_applied rs fu) := by
  obtain ⟨n, d, c, rfl, hn, hc, h⟩ := h
  simp only [↓dSeq, ↓dAsg, ↓dSetL, ↓dNext, ↓dIfS, ↓dRet, ↓dRetL, ↓dDrop, ↓dNever, ↓dBrk, ↓dCnt, ↓dAug, ↓dPar, ↓dPar3, ↓dParL, ↓dApp, ↓dExt, ↓dVar, ↓dC, ↓dBin, ↓fI, ↓fI0, ↓fAdd, ↓fEq, ↓fNe, ↓fIn, ↓dTest, ↓dAndT, ↓dOrT, ↓dNotT, ↓dAndV, ↓dOrV, ↓dNotV, ↓dIf, ↓dNeg, ↓dIsN, ↓dChain, ↓dNil, ↓dCons, ↓dTup, ↓dLst, ↓dFz, ↓valsD, ↓dIx, ↓dCall, ↓dCallL, ↓hasSrc, ↓rrv, ↓dN, ↓dT, ↓dTn, ↓dTc, ↓rsv, ↓Gs.set, ↓dFor, ↓dItems, ↓dRange1, ↓dRange2, ↓dZip, ↓dRev, ↓dLc, ↓dCB, ↓cLen, ↓cAll, ↓cTuple, ↓cInt, ↓cInt1, ↓cInt2, ↓dIsi, ↓dBits, ↓dSetS, ↓dCallS, ↓oSub, ↓oAddI, ↓oMul, ↓oDiv, ↓oMod, ↓oShl, ↓oShr, ↓oPow, ↓oAnd, ↓oLt, ↓oLe, ↓oGt, ↓oGe, ↓oAbs, ↓oMax, ↓oMin, ↓dCallK, ↓cRepr, ↓cSum, ↓cMinL, ↓cMaxL, ↓cSorted, ↓cSortedD, ↓cList, ↓dListR, ↓fInD, ↓fMulL, ↓dSl, ↓oNo, ↓oSo, ↓dBy, b__law_applied, ent, svOf, List.map_cons, List.map_nil, List.cons_append, List.nil_append, List.append_nil, List.replicate, List.length_cons, List.length_nil, List.getElem?_cons_zero, List.getElem?_cons_succ, List.getElem?_nil, List.set_cons_zero, List.set_cons_succ, Option.map_some, Option.map_none, Option.isNone_some, Option.isNone_none, forall_const, true_implies, false_implies, and_true, true_and, Bool.true_eq_false, Bool.false_eq_true, reduceCtorEq, noOwn, wipeS, hide, fuN_self, lcD, dYes, Nat.zero_add, Nat.reduceAdd, Nat.reduceLeDiff, Nat.reduceSub, atI_0, atI_1, atI_2, atI_3, atI_4, atI_5, Int.one_mul, eqv_ii, eqv_ss, eqv_num, shaped_int, shaped_num, shaped_none, shaped_ru, flat_str, flat_int, flat_none, List.all_cons, List.all_nil, Bool.and_true, decide_eq_true_eq, decide_eq_false_iff_not, Bool.not_eq_true', Bool.not_eq_false', Decidable.not_not, ↓reduceIte, Bool.false_eq_true, Int.reduceLT, eqv_strs, pick_0, pick_01, pick_10, pick_012, pick_021, pick_102, pick_120, pick_201, pick_210]
  unfold chD
  simp only [↓dSeq, ↓dAsg, ↓dSetL, ↓dNext, ↓dIfS, ↓dRet, ↓dRetL, ↓dDrop, ↓dNever, ↓dBrk, ↓dCnt, ↓dAug, ↓dPar, ↓dPar3, ↓dParL, ↓dApp, ↓dExt, ↓dVar, ↓dC, ↓dBin, ↓fI, ↓fI0, ↓fAdd, ↓fEq, ↓fNe, ↓fIn, ↓dTest, ↓dAndT, ↓dOrT, ↓dNotT, ↓dAndV, ↓dOrV, ↓dNotV, ↓dIf, ↓dNeg, ↓dIsN, ↓dChain, ↓dNil, ↓dCons, ↓dTup, ↓dLst, ↓dFz, ↓valsD, ↓dIx, ↓dCall, ↓dCallL, ↓hasSrc, ↓rrv, ↓dN, ↓dT, ↓dTn, ↓dTc, ↓rsv, ↓Gs.set, ↓dFor, ↓dItems, ↓dRange1, ↓dRange2, ↓dZip, ↓dRev, ↓dLc, ↓dCB, ↓cLen, ↓cAll, ↓cTuple, ↓cInt, ↓cInt1, ↓cInt2, ↓dIsi, ↓dBits, ↓dSetS, ↓dCallS, ↓oSub, ↓oAddI, ↓oMul, ↓oDiv, ↓oMod, ↓oShl, ↓oShr, ↓oPow, ↓oAnd, ↓oLt, ↓oLe, ↓oGt, ↓oGe, ↓oAbs, ↓oMax, ↓oMin, ↓dCallK, ↓cRepr, ↓cSum, ↓cMinL, ↓cMaxL, ↓cSorted, ↓cSortedD, ↓cList, ↓dListR, ↓fInD, ↓fMulL, ↓dSl, ↓oNo, ↓oSo, ↓dBy, ent, svOf, List.map_cons, List.map_nil, List.cons_append, List.nil_append, List.append_nil, List.replicate, List.length_cons, List.length_nil, List.getElem?_cons_zero, List.getElem?_cons_succ, List.getElem?_nil, List.set_cons_zero, List.set_cons_succ, Option.map_some, Option.map_none, Option.isNone_some, Option.isNone_none, forall_const, true_implies, false_implies, and_true, true_and, Bool.true_eq_false, Bool.false_eq_true, reduceCtorEq, noOwn, wipeS, hide, fuN_self, lcD, dYes, Nat.zero_add, Nat.reduceAdd, Nat.reduceLeDiff, Nat.reduceSub, atI_0, atI_1, atI_2, atI_3, atI_4, atI_5, Int.one_mul, eqv_ii, eqv_ss, eqv_num, shaped_int, shaped_num, shaped_none, shaped_ru, flat_str, flat_int, flat_none, List.all_cons, List.all_nil, Bool.and_true, decide_eq_true_eq, decide_eq_false_iff_not, Bool.not_eq_true', Bool.not_eq_false', Decidable.not_not, ↓reduceIte, Bool.false_eq_true, Int.reduceLT, eqv_strs, pick_0, pick_01, pick_10, pick_012, pick_021, pick_102, pick_120, pick_201, pick_210]
  refine p_laB hc.w hn fun y z => ?_
  simp only [↓dSeq, ↓dAsg, ↓dSetL, ↓dNext, ↓dIfS, ↓dRet, ↓dRetL, ↓dDrop, ↓dNever, ↓dBrk, ↓dCnt, ↓dAug, ↓dPar, ↓dPar3, ↓dParL, ↓dApp, ↓dExt, ↓dVar, ↓dC, ↓dBin, ↓fI, ↓fI0, ↓fAdd, ↓fEq, ↓fNe, ↓fIn, ↓dTest, ↓dAndT, ↓dOrT, ↓dNotT, ↓dAndV, ↓dOrV, ↓dNotV, ↓dIf, ↓dNeg, ↓dIsN, ↓dChain, ↓dNil, ↓dCons, ↓dTup, ↓dLst, ↓dFz, ↓valsD, ↓dIx, ↓dCall, ↓dCallL, ↓hasSrc, ↓rrv, ↓dN, ↓dT, ↓dTn, ↓dTc, ↓rsv, ↓Gs.set, ↓dFor, ↓dItems, ↓dRange1, ↓dRange2, ↓dZip, ↓dRev, ↓dLc, ↓dCB, ↓cLen, ↓cAll, ↓cTuple, ↓cInt, ↓cInt1, ↓cInt2, ↓dIsi, ↓dBits, ↓dSetS, ↓dCallS, ↓oSub, ↓oAddI, ↓oMul, ↓oDiv, ↓oMod, ↓oShl, ↓oShr, ↓oPow, ↓oAnd, ↓oLt, ↓oLe, ↓oGt, ↓oGe, ↓oAbs, ↓oMax, ↓oMin, ↓dCallK, ↓cRepr, ↓cSum, ↓cMinL, ↓cMaxL, ↓cSorted, ↓cSortedD, ↓cList, ↓dListR, ↓fInD, ↓fMulL, ↓dSl, ↓oNo, ↓oSo, ↓dBy, ent, svOf, List.map_cons, List.map_nil, List.cons_append, List.nil_append, List.append_nil, List.replicate, List.length_cons, List.length_nil, List.getElem?_cons_zero, List.getElem?_cons_succ, List.getElem?_nil, List.set_cons_zero, List.set_cons_succ, Option.map_some, Option.map_none, Option.isNone_some, Option.isNone_none, forall_const, true_implies, false_implies, and_true, true_and, Bool.true_eq_false, Bool.false_eq_true, reduceCtorEq, noOwn, wipeS, hide, fuN_self, lcD, dYes, Nat.zero_add, Nat.reduceAdd, Nat.reduceLeDiff, Nat.reduceSub, atI_0, atI_1, atI_2, atI_3, atI_4, atI_5, Int.one_mul, eqv_ii, eqv_ss, eqv_num, shaped_int, shaped_num, shaped_none, shaped_ru, flat_str, flat_int, flat_none, List.all_cons, List.all_nil, Bool.and_true, decide_eq_true_eq, decide_eq_false_iff_not, Bool.not_eq_true', Bool.not_eq_false', Decidable.not_not, ↓reduceIte, Bool.false_eq_true, Int.reduceLT, eqv_strs, pick_0, pick_01, pick_10, pick_012, pick_021, pick_102, pick_120, pick_201, pick_210]
  exact h
section
variable {P : Program} {w : World} {K : Fg} {mg : Str → Option Value} {base : Heap}
theorem d__law_applied (T : Tx w K mg) {cdv : Value} {A : Around} {outer : List Env} {s : Shared} {H : Hp} {E : XK} (hr : Room 4 (A.deeper (envOfC "_law_applied" (defScope st__law_applied) s.heap.objs.size T.f__law_applied cdv))) (hgd : (A.deeper (envOfC "_law_applied" (defScope st__law_applied) s.heap.objs.size T.f__law_applied cdv)).guards = some []) :
    PSs (cxOf CX0 P w K mg base N__law_applied "_law_applied" (defScope st__law_applied) T.f__law_applied cdv A outer s H E).nox (defBody st__law_applied) (upS K b__law_applied) :=
  (ss_cons (s_for PassesOwn.never rfl (i_items (e_var 1 (pv 1))) (g_tup rfl (gs_cons (g_name (pg_name (i := 2) sc__law_applied.nd rfl (.inl rfl))) (gs_cons (g_name (pg_name (i := 3) sc__law_applied.nd rfl (.inl rfl))) gs_nil))) (ss_one (s_set (i := 0) sc__law_applied.nd rfl (.inl rfl) (e_call (ok__law_rounded T) (hr.mono (by decide)) hgd (by rfl) T.g__law_rounded T.F__law_rounded.kp T.b__law_rounded pass0 (a_cons (e_var 0 (pv 0)) (a_cons (e_var 2 (pv 2)) (a_cons (e_var 3 (pv 3)) a_nil)))))))
    (ss_one (s_ret (e_var 0 (pv 0)))))
theorem ok__law_applied (T : Tx w K mg) : Fn P w K mg base CX0 5 T.f__law_applied T.fd__law_applied ["_law_number_here", "_law_chain_here"] (lift K 2 fs__law_applied) := fn_data T.F__law_applied sc__law_applied b__law_applied (fun _ _ _ _ _ _ hr hgd => d__law_applied T hr hgd) p__law_applied
end
--@@ _law_some_numbers
def b__law_some_numbers : DS :=
  (dSeq (dAsg (dCall 2 fs__law_pick (dCons (dVar 0) (dCons (dFz (dLst (dCons (dC (.int 1)) (dCons (dC (.int 2)) (dCons (dC (.int 3)) (dCons (dC (.int 4)) (dCons (dC (.int 5)) dNil))))))) dNil))) (dN 2))
  (dSeq (dSetL 3 (dLc [4] (dRange1 (dBin oShl (dC (.int 1)) (dBin fAdd (dCB oMin (dCons (dVar 1) (dCons (dC (.int 4)) dNil))) (dVar 2)))) (dN 4) dYes (dCall 2 fs__law_low (dCons (dBin fAdd (dBin oShl (dC (.int 1)) (dBin fAdd (dVar 1) (dVar 2))) (dVar 4)) (dCons (dBin oShl (dC (.int 1)) (dVar 2)) dNil)))))
  (dRet (dBin fAdd (dVar 3) (dFz (dLc [5] (dRange1 (dC (.int 5))) (dN 5) dYes (dCall 2 fs__law_number (dCons (dVar 0) (dCons (dC (.int 1000)) dNil)))))))))
def NumD (a : Nat) (z : Da) : Prop := ∃ n d : Int, z = num n d ∧ NuB a n d
def fs__law_some_numbers : FSp := fun rs fu post => ∃ (w : Int) (m : Nat), rs = [.src, .val (.int w)] ∧ fu = some (m + 31) ∧ 1 ≤ w ∧ w ≤ 100 ∧ ∀ zs : List Da, (∀ z ∈ zs, NumD 500 z) → post (.val (.list zs)) (some m)
theorem p__law_some_numbers (rs : List Rv) (fu : Option Nat) (post : Rr → Option Nat → Prop) (hl : rs.length = 2) (h : fs__law_some_numbers rs fu post) : b__law_some_numbers ⟨fun g => post (.val .none) g.fu, fun r g => post r g.fu, fun _ => False, fun _ => False⟩ (ent N__law_some_numbers rs fu) := by
  obtain ⟨w, m, rfl, rfl, h1, h2, h⟩ := h
  simp only [↓dSeq, ↓dAsg, ↓dSetL, ↓dNext, ↓dIfS, ↓dRet, ↓dRetL, ↓dDrop, ↓dNever, ↓dBrk, ↓dCnt, ↓dAug, ↓dPar, ↓dPar3, ↓dParL, ↓dApp, ↓dExt, ↓dVar, ↓dC, ↓dBin, ↓fI, ↓fI0, ↓fAdd, ↓fEq, ↓fNe, ↓fIn, ↓dTest, ↓dAndT, ↓dOrT, ↓dNotT, ↓dAndV, ↓dOrV, ↓dNotV, ↓dIf, ↓dNeg, ↓dIsN, ↓dChain, ↓dNil, ↓dCons, ↓dTup, ↓dLst, ↓dFz, ↓valsD, ↓dIx, ↓dCall, ↓dCallL, ↓hasSrc, ↓rrv, ↓dN, ↓dT, ↓dTn, ↓dTc, ↓rsv, ↓Gs.set, ↓dFor, ↓dItems, ↓dRange1, ↓dRange2, ↓dZip, ↓dRev, ↓dLc, ↓dCB, ↓cLen, ↓cAll, ↓cTuple, ↓cInt, ↓cInt1, ↓cInt2, ↓dIsi, ↓dBits, ↓dSetS, ↓dCallS, ↓oSub, ↓oAddI, ↓oMul, ↓oDiv, ↓oMod, ↓oShl, ↓oShr, ↓oPow, ↓oAnd, ↓oLt, ↓oLe, ↓oGt, ↓oGe, ↓oAbs, ↓oMax, ↓oMin, ↓dCallK, ↓cRepr, ↓cSum, ↓cMinL, ↓cMaxL, ↓cSorted, ↓cSortedD, ↓cList, ↓dListR, ↓fInD, ↓fMulL, ↓dSl, ↓oNo, ↓oSo, ↓dBy, b__law_some_numbers, fs__law_pick, ent, svOf, List.map_cons, List.map_nil, List.cons_append, List.nil_append, List.append_nil, List.replicate, List.length_cons, List.length_nil, List.getElem?_cons_zero, List.getElem?_cons_succ, List.getElem?_nil, List.set_cons_zero, List.set_cons_succ, Option.map_some, Option.map_none, Option.isNone_some, Option.isNone_none, forall_const, true_implies, false_implies, and_true, true_and, Bool.true_eq_false, Bool.false_eq_true, reduceCtorEq, noOwn, wipeS, hide, fuN_self, lcD, dYes, Nat.zero_add, Nat.reduceAdd, Nat.reduceLeDiff, Nat.reduceSub, atI_0, atI_1, atI_2, atI_3, atI_4, atI_5, Int.one_mul, eqv_ii, eqv_ss, eqv_num, shaped_int, shaped_num, shaped_none, shaped_ru, flat_str, flat_int, flat_none, List.all_cons, List.all_nil, Bool.and_true, decide_eq_true_eq, decide_eq_false_iff_not, Bool.not_eq_true', Bool.not_eq_false', Decidable.not_not, ↓reduceIte, Bool.false_eq_true, Int.reduceLT, eqv_strs, pick_0, pick_01, pick_10, pick_012, pick_021, pick_102, pick_120, pick_201, pick_210]
  refine ⟨_, m + 30, rfl, rfl, by show 0 < 5; decide, by show 5 < 1000000; decide, fun v hv => ?_⟩
  obtain ⟨f, rfl, f0, f1⟩ : ∃ s : Int, v = .int s ∧ 1 ≤ s ∧ s ≤ 5 := by
    simp only [List.mem_cons, List.not_mem_nil, or_false] at hv
    rcases hv with rfl | rfl | rfl | rfl | rfl <;> exact ⟨_, rfl, by decide, by decide⟩
  have b1 : Bn 64 (1 : Int) := Bn.small (by decide) (by decide) (by decide)
  simp only [↓dSeq, ↓dAsg, ↓dSetL, ↓dNext, ↓dIfS, ↓dRet, ↓dRetL, ↓dDrop, ↓dNever, ↓dBrk, ↓dCnt, ↓dAug, ↓dPar, ↓dPar3, ↓dParL, ↓dApp, ↓dExt, ↓dVar, ↓dC, ↓dBin, ↓fI, ↓fI0, ↓fAdd, ↓fEq, ↓fNe, ↓fIn, ↓dTest, ↓dAndT, ↓dOrT, ↓dNotT, ↓dAndV, ↓dOrV, ↓dNotV, ↓dIf, ↓dNeg, ↓dIsN, ↓dChain, ↓dNil, ↓dCons, ↓dTup, ↓dLst, ↓dFz, ↓valsD, ↓dIx, ↓dCall, ↓dCallL, ↓hasSrc, ↓rrv, ↓dN, ↓dT, ↓dTn, ↓dTc, ↓rsv, ↓Gs.set, ↓dFor, ↓dItems, ↓dRange1, ↓dRange2, ↓dZip, ↓dRev, ↓dLc, ↓dCB, ↓cLen, ↓cAll, ↓cTuple, ↓cInt, ↓cInt1, ↓cInt2, ↓dIsi, ↓dBits, ↓dSetS, ↓dCallS, ↓oSub, ↓oAddI, ↓oMul, ↓oDiv, ↓oMod, ↓oShl, ↓oShr, ↓oPow, ↓oAnd, ↓oLt, ↓oLe, ↓oGt, ↓oGe, ↓oAbs, ↓oMax, ↓oMin, ↓dCallK, ↓cRepr, ↓cSum, ↓cMinL, ↓cMaxL, ↓cSorted, ↓cSortedD, ↓cList, ↓dListR, ↓fInD, ↓fMulL, ↓dSl, ↓oNo, ↓oSo, ↓dBy, ent, svOf, List.map_cons, List.map_nil, List.cons_append, List.nil_append, List.append_nil, List.replicate, List.length_cons, List.length_nil, List.getElem?_cons_zero, List.getElem?_cons_succ, List.getElem?_nil, List.set_cons_zero, List.set_cons_succ, Option.map_some, Option.map_none, Option.isNone_some, Option.isNone_none, forall_const, true_implies, false_implies, and_true, true_and, Bool.true_eq_false, Bool.false_eq_true, reduceCtorEq, noOwn, wipeS, hide, fuN_self, lcD, dYes, Nat.zero_add, Nat.reduceAdd, Nat.reduceLeDiff, Nat.reduceSub, atI_0, atI_1, atI_2, atI_3, atI_4, atI_5, Int.one_mul, eqv_ii, eqv_ss, eqv_num, shaped_int, shaped_num, shaped_none, shaped_ru, flat_str, flat_int, flat_none, List.all_cons, List.all_nil, Bool.and_true, decide_eq_true_eq, decide_eq_false_iff_not, Bool.not_eq_true', Bool.not_eq_false', Decidable.not_not, ↓reduceIte, Bool.false_eq_true, Int.reduceLT, eqv_strs, pick_0, pick_01, pick_10, pick_012, pick_021, pick_102, pick_120, pick_201, pick_210]
  obtain ⟨u, hu, u0, u1⟩ : ∃ u : Int, (if (4 : Int) < w then 4 else w) + f = u ∧ 0 ≤ u ∧ u ≤ 9 := ⟨_, rfl, by split <;> omega, by split <;> omega⟩
  rw [hu]
  obtain ⟨p, hp, p0, p1⟩ : ∃ p : Int, (2 : Int) ^ u.toNat = p ∧ 0 ≤ p ∧ p ≤ 512 := ⟨_, rfl, Int.le_of_lt (pow2_pos _), by have := pow_le2 (show u.toNat ≤ 9 by omega); simpa using this⟩
  rw [hp]
  refine ⟨shlX 64 b1 u0 (by omega), by omega, by omega, ?_⟩
  have f2 := pow2_pos f.toNat
  have bf : Bn 10 ((2 : Int) ^ f.toNat) := Bn.pow2 (by omega)
  refine lc_map (fun x => match x with | .int j => nm (low (2 ^ (w + f).toNat + j) (2 ^ f.toNat)) | _ => .none) (fun x hx R hR => ?_) (by rw [rangeD_len]; simp; omega) ?_
  · obtain ⟨j, rfl, j0, j1⟩ := rangeD_mem hx
    have q := pow2_pos (w + f).toNat
    simp only [↓dSeq, ↓dAsg, ↓dSetL, ↓dNext, ↓dIfS, ↓dRet, ↓dRetL, ↓dDrop, ↓dNever, ↓dBrk, ↓dCnt, ↓dAug, ↓dPar, ↓dPar3, ↓dParL, ↓dApp, ↓dExt, ↓dVar, ↓dC, ↓dBin, ↓fI, ↓fI0, ↓fAdd, ↓fEq, ↓fNe, ↓fIn, ↓dTest, ↓dAndT, ↓dOrT, ↓dNotT, ↓dAndV, ↓dOrV, ↓dNotV, ↓dIf, ↓dNeg, ↓dIsN, ↓dChain, ↓dNil, ↓dCons, ↓dTup, ↓dLst, ↓dFz, ↓valsD, ↓dIx, ↓dCall, ↓dCallL, ↓hasSrc, ↓rrv, ↓dN, ↓dT, ↓dTn, ↓dTc, ↓rsv, ↓Gs.set, ↓dFor, ↓dItems, ↓dRange1, ↓dRange2, ↓dZip, ↓dRev, ↓dLc, ↓dCB, ↓cLen, ↓cAll, ↓cTuple, ↓cInt, ↓cInt1, ↓cInt2, ↓dIsi, ↓dBits, ↓dSetS, ↓dCallS, ↓oSub, ↓oAddI, ↓oMul, ↓oDiv, ↓oMod, ↓oShl, ↓oShr, ↓oPow, ↓oAnd, ↓oLt, ↓oLe, ↓oGt, ↓oGe, ↓oAbs, ↓oMax, ↓oMin, ↓dCallK, ↓cRepr, ↓cSum, ↓cMinL, ↓cMaxL, ↓cSorted, ↓cSortedD, ↓cList, ↓dListR, ↓fInD, ↓fMulL, ↓dSl, ↓oNo, ↓oSo, ↓dBy, fs__law_low, ent, svOf, List.map_cons, List.map_nil, List.cons_append, List.nil_append, List.append_nil, List.replicate, List.length_cons, List.length_nil, List.getElem?_cons_zero, List.getElem?_cons_succ, List.getElem?_nil, List.set_cons_zero, List.set_cons_succ, Option.map_some, Option.map_none, Option.isNone_some, Option.isNone_none, forall_const, true_implies, false_implies, and_true, true_and, Bool.true_eq_false, Bool.false_eq_true, reduceCtorEq, noOwn, wipeS, hide, fuN_self, lcD, dYes, Nat.zero_add, Nat.reduceAdd, Nat.reduceLeDiff, Nat.reduceSub, atI_0, atI_1, atI_2, atI_3, atI_4, atI_5, Int.one_mul, eqv_ii, eqv_ss, eqv_num, shaped_int, shaped_num, shaped_none, shaped_ru, flat_str, flat_int, flat_none, List.all_cons, List.all_nil, Bool.and_true, decide_eq_true_eq, decide_eq_false_iff_not, Bool.not_eq_true', Bool.not_eq_false', Decidable.not_not, ↓reduceIte, Bool.false_eq_true, Int.reduceLT, eqv_strs, pick_0, pick_01, pick_10, pick_012, pick_021, pick_102, pick_120, pick_201, pick_210]
    refine ⟨shlX 64 b1 (by omega) (by omega), shlX 64 b1 (by omega) (by omega), _, _, rfl, by omega, f2, bf.mono (by decide), hR _ rfl⟩
  · refine ⟨by decide, by decide, lc_draw (NumD 500) 6 (fu := m) (by rw [rangeD_len]; rfl) (fun x hx m1 R hR => ?_) (by rw [rangeD_len]; decide) fun zs zl hz => ?_⟩
    · simp only [↓dSeq, ↓dAsg, ↓dSetL, ↓dNext, ↓dIfS, ↓dRet, ↓dRetL, ↓dDrop, ↓dNever, ↓dBrk, ↓dCnt, ↓dAug, ↓dPar, ↓dPar3, ↓dParL, ↓dApp, ↓dExt, ↓dVar, ↓dC, ↓dBin, ↓fI, ↓fI0, ↓fAdd, ↓fEq, ↓fNe, ↓fIn, ↓dTest, ↓dAndT, ↓dOrT, ↓dNotT, ↓dAndV, ↓dOrV, ↓dNotV, ↓dIf, ↓dNeg, ↓dIsN, ↓dChain, ↓dNil, ↓dCons, ↓dTup, ↓dLst, ↓dFz, ↓valsD, ↓dIx, ↓dCall, ↓dCallL, ↓hasSrc, ↓rrv, ↓dN, ↓dT, ↓dTn, ↓dTc, ↓rsv, ↓Gs.set, ↓dFor, ↓dItems, ↓dRange1, ↓dRange2, ↓dZip, ↓dRev, ↓dLc, ↓dCB, ↓cLen, ↓cAll, ↓cTuple, ↓cInt, ↓cInt1, ↓cInt2, ↓dIsi, ↓dBits, ↓dSetS, ↓dCallS, ↓oSub, ↓oAddI, ↓oMul, ↓oDiv, ↓oMod, ↓oShl, ↓oShr, ↓oPow, ↓oAnd, ↓oLt, ↓oLe, ↓oGt, ↓oGe, ↓oAbs, ↓oMax, ↓oMin, ↓dCallK, ↓cRepr, ↓cSum, ↓cMinL, ↓cMaxL, ↓cSorted, ↓cSortedD, ↓cList, ↓dListR, ↓fInD, ↓fMulL, ↓dSl, ↓oNo, ↓oSo, ↓dBy, fs__law_number, ent, svOf, List.map_cons, List.map_nil, List.cons_append, List.nil_append, List.append_nil, List.replicate, List.length_cons, List.length_nil, List.getElem?_cons_zero, List.getElem?_cons_succ, List.getElem?_nil, List.set_cons_zero, List.set_cons_succ, Option.map_some, Option.map_none, Option.isNone_some, Option.isNone_none, forall_const, true_implies, false_implies, and_true, true_and, Bool.true_eq_false, Bool.false_eq_true, reduceCtorEq, noOwn, wipeS, hide, fuN_self, lcD, dYes, Nat.zero_add, Nat.reduceAdd, Nat.reduceLeDiff, Nat.reduceSub, atI_0, atI_1, atI_2, atI_3, atI_4, atI_5, Int.one_mul, eqv_ii, eqv_ss, eqv_num, shaped_int, shaped_num, shaped_none, shaped_ru, flat_str, flat_int, flat_none, List.all_cons, List.all_nil, Bool.and_true, decide_eq_true_eq, decide_eq_false_iff_not, Bool.not_eq_true', Bool.not_eq_false', Decidable.not_not, ↓reduceIte, Bool.false_eq_true, Int.reduceLT, eqv_strs, pick_0, pick_01, pick_10, pick_012, pick_021, pick_102, pick_120, pick_201, pick_210]
      refine ⟨_, m1, rfl, rfl, by decide, by decide, fun n d n0 bn d0 bd g => hR _ _ ⟨n, d, rfl, NuB.of n0 d0 g (bn.mono (by decide)) (bd.mono (by decide))⟩ rfl⟩
    · rw [rangeD_len] at zl
      refine ⟨?_, h _ fun z hz' => ?_⟩
      · simp only [List.nil_append, List.length_map, rangeD_len, zl, sizeLine_eq]
        show p.toNat + 5 ≤ _
        omega
      · rcases List.mem_append.mp hz' with q | q
        · rw [List.nil_append] at q
          obtain ⟨x, hx, rfl⟩ := List.mem_map.mp q
          obtain ⟨j, rfl, j0, j1⟩ := rangeD_mem hx
          have q := pow2_pos (w + f).toNat
          obtain ⟨l1, l2, l3, l4, l5⟩ := low_pos (n := 2 ^ (w + f).toNat + j) (d := 2 ^ f.toNat) (by omega) f2
          refine ⟨_, _, rfl, NuB.of l1 l2 l3 (Bn.le (j := 2 ^ (w + f).toNat + j) ?_ (Int.le_of_lt l1) l4) ((bf.mono (by decide)).le (Int.le_of_lt l2) l5)⟩
          exact ((Bn.pow2 (n := (w + f).toNat) (m := 200) (by omega)).add (Bn.small (by omega) (by omega) (by decide))).mono (by decide)
        · exact hz z q
section
variable {P : Program} {w : World} {K : Fg} {mg : Str → Option Value} {base : Heap}
theorem d__law_some_numbers (T : Tx w K mg) {cdv : Value} {A : Around} {outer : List Env} {s : Shared} {H : Hp} {E : XK} (hr : Room 4 (A.deeper (envOfC "_law_some_numbers" (defScope st__law_some_numbers) s.heap.objs.size T.f__law_some_numbers cdv))) (hgd : (A.deeper (envOfC "_law_some_numbers" (defScope st__law_some_numbers) s.heap.objs.size T.f__law_some_numbers cdv)).guards = some []) :
    PSs (cxOf CX0 P w K mg base N__law_some_numbers "_law_some_numbers" (defScope st__law_some_numbers) T.f__law_some_numbers cdv A outer s H E).nox (defBody st__law_some_numbers) (upS K b__law_some_numbers) :=
  (ss_cons (s_set (i := 2) sc__law_some_numbers.nd rfl (.inr rfl) (e_call (ok__law_pick T) (hr.mono (by decide)) hgd (by rfl) T.g__law_pick T.F__law_pick.kp T.b__law_pick pass0 (a_cons (e_var 0 (pv 0)) (a_cons (e_fz (e_lstL (a_cons e_int (a_cons e_int (a_cons e_int (a_cons e_int (a_cons e_int a_nil))))))) a_nil))))
    (ss_cons (s_setLc (i := 3) (own := [("_law_j", 4)]) rfl sc__law_some_numbers.nd rfl rfl (sw_true rfl rfl rfl (by decide +kernel)) (i_range1 (by rfl) T.n_range (e_shl e_int (e_add (e_min rfl (by rfl) T.n_min (a_cons (e_var 1 (pv 1)) (a_cons e_int a_nil))) (e_var 2 (pv 2))))) (blkOk_by (own := [("_law_j", 4)]) (N := N__law_some_numbers) (sc := defScope st__law_some_numbers) (by decide +kernel)) (fun _ _ _ _ _ => (gw_name rfl (pg_name (i := 4) sc__law_some_numbers.nd rfl (.inl rfl)) (by decide))) (fun _ _ _ _ _ => ts_yes) (fun _ _ _ _ _ => (e_call (ok__law_low T) (hr.mono (by decide)) hgd (by rfl) T.g__law_low T.F__law_low.kp T.b__law_low pass0 (a_cons (e_add (e_shl e_int (e_add (e_var 1 (pv 1)) (e_var 2 (pv 2)))) (e_var 4 (pv 4))) (a_cons (e_shl e_int (e_var 2 (pv 2))) a_nil)))))
    (ss_one (s_ret (e_add (e_var 3 (pv 3)) (e_fz (e_lc (own := [("_law_turn", 5)]) rfl sc__law_some_numbers.nd (i_range1 (by rfl) T.n_range e_int) (blkOk_by (own := [("_law_turn", 5)]) (N := N__law_some_numbers) (sc := defScope st__law_some_numbers) (by decide +kernel)) (fun _ _ _ _ _ => (gw_name rfl (pg_name (i := 5) sc__law_some_numbers.nd rfl (.inl rfl)) (by decide))) (fun _ _ _ _ _ => ts_yes) (fun _ _ _ _ _ => (e_call (ok__law_number T) (hr.mono (by decide)) hgd (by rfl) T.g__law_number T.F__law_number.kp T.b__law_number pass0 (a_cons (e_var 0 (pv 0)) (a_cons e_int a_nil)))))))))))
theorem ok__law_some_numbers (T : Tx w K mg) : Fn P w K mg base CX0 5 T.f__law_some_numbers T.fd__law_some_numbers ["_law_source_here", "_law_least"] (lift K 2 fs__law_some_numbers) := fn_data T.F__law_some_numbers sc__law_some_numbers b__law_some_numbers (fun _ _ _ _ _ _ hr hgd => d__law_some_numbers T hr hgd) p__law_some_numbers
end
--@@ _law_right
def b__law_right : DS :=
  (dSeq (dFor (dRange1 (dC (.int 10))) (dN 1)
    (dSeq (dAsg (dCall 4 fs__law_chain (dCons (dVar 0) (dCons (dBin fAdd (dC (.int 1)) (dCall 2 fs__law_draw (dCons (dVar 0) (dCons (dC (.int 4)) dNil)))) (dCons (dC (.int 4)) (dCons (dC (.int 4)) dNil))))) (dN 2))
  (dSeq (dAsg (dCall 1 fs_last_width (dCons (dVar 2) dNil)) (dN 3))
  (dFor (dItems (dCall 2 fs__law_some_numbers (dCons (dVar 0) (dCons (dVar 3) dNil)))) (dN 4)
    (dSeq (dAsg (dCall 2 fs_applied (dCons (dVar 4) (dCons (dVar 2) dNil))) (dN 5))
  (dSeq (dIfS (dOrT (dTest (dBin fNe (dVar 5) (dCall 2 fs__law_applied (dCons (dVar 4) (dCons (dVar 2) dNil))))) (dTest (dBin (fInD true) (dVar 5) (dCall 2 fs_neighbours (dCons (dVar 4) (dCons (dVar 3) dNil))))))
    (dRet (dC (.bool false)))
    dNext)
  (dIfS (dOrT (dTest (dBin fNe (dCall 2 fs_applied (dCons (dVar 5) (dCons (dVar 2) dNil))) (dVar 5))) (dTest (dBin fNe (dCall 2 fs_neighbours (dCons (dVar 5) (dCons (dVar 3) dNil))) (dTup (dCons (dVar 5) (dCons (dVar 5) dNil))))))
    (dRet (dC (.bool false)))
    dNext)))))))
  (dRet (dC (.bool true))))
def fs__law_right : FSp := fun rs fu post => rs = [.src] ∧ fu = some 1000000 ∧ ∀ m' : Nat, post (.val (.bool true)) (some m')
def rtI : DS := (dSeq (dAsg (dCall 2 fs_applied (dCons (dVar 4) (dCons (dVar 2) dNil))) (dN 5))
  (dSeq (dIfS (dOrT (dTest (dBin fNe (dVar 5) (dCall 2 fs__law_applied (dCons (dVar 4) (dCons (dVar 2) dNil))))) (dTest (dBin (fInD true) (dVar 5) (dCall 2 fs_neighbours (dCons (dVar 4) (dCons (dVar 3) dNil))))))
    (dRet (dC (.bool false)))
    dNext)
  (dIfS (dOrT (dTest (dBin fNe (dCall 2 fs_applied (dCons (dVar 5) (dCons (dVar 2) dNil))) (dVar 5))) (dTest (dBin fNe (dCall 2 fs_neighbours (dCons (dVar 5) (dCons (dVar 3) dNil))) (dTup (dCons (dVar 5) (dCons (dVar 5) dNil))))))
    (dRet (dC (.bool false)))
    dNext)))
theorem p_rtI {D : DEnds} {b y : Option Sv} {m : Nat} {n d : Int} {c : List (Int × Ru)} (hc : Chn1 c) (hn : NuB 500 n d)
    (h : ∀ y : Option Sv, D.nx ⟨[some .src, b, some (.val (chD c)), some (.val (.int (chT c).1)), some (.val (num n d)), y], some m, false⟩) :
    rtI D ⟨[some .src, b, some (.val (chD c)), some (.val (.int (chT c).1)), some (.val (num n d)), y], some m, false⟩ := by
  have hn1 : NuB 1000 n d := NuB.mono hn (by decide)
  have ha := appl_B hc.w hn
  have ha1 := NuB.mono ha (show 500 ≤ 1000 by decide)
  obtain ⟨_, w1, w2⟩ := chT_B hc.ne hc.w
  have hf := appl_fits hc hn.nu
  have he := appl_ends hc hn.nu
  have es := ends_self hf
  have e2 := appl_self ha.nu w1 hf (chT_min hc.ne).1
  have ei := in_two he
  simp only [↓dSeq, ↓dAsg, ↓dSetL, ↓dNext, ↓dIfS, ↓dRet, ↓dRetL, ↓dDrop, ↓dNever, ↓dBrk, ↓dCnt, ↓dAug, ↓dPar, ↓dPar3, ↓dParL, ↓dApp, ↓dExt, ↓dVar, ↓dC, ↓dBin, ↓fI, ↓fI0, ↓fAdd, ↓fEq, ↓fNe, ↓fIn, ↓dTest, ↓dAndT, ↓dOrT, ↓dNotT, ↓dAndV, ↓dOrV, ↓dNotV, ↓dIf, ↓dNeg, ↓dIsN, ↓dChain, ↓dNil, ↓dCons, ↓dTup, ↓dLst, ↓dFz, ↓valsD, ↓dIx, ↓dCall, ↓dCallL, ↓hasSrc, ↓rrv, ↓dN, ↓dT, ↓dTn, ↓dTc, ↓rsv, ↓Gs.set, ↓dFor, ↓dItems, ↓dRange1, ↓dRange2, ↓dZip, ↓dRev, ↓dLc, ↓dCB, ↓cLen, ↓cAll, ↓cTuple, ↓cInt, ↓cInt1, ↓cInt2, ↓dIsi, ↓dBits, ↓dSetS, ↓dCallS, ↓oSub, ↓oAddI, ↓oMul, ↓oDiv, ↓oMod, ↓oShl, ↓oShr, ↓oPow, ↓oAnd, ↓oLt, ↓oLe, ↓oGt, ↓oGe, ↓oAbs, ↓oMax, ↓oMin, ↓dCallK, ↓cRepr, ↓cSum, ↓cMinL, ↓cMaxL, ↓cSorted, ↓cSortedD, ↓cList, ↓dListR, ↓fInD, ↓fMulL, ↓dSl, ↓oNo, ↓oSo, ↓dBy, rtI, fs_applied, fs__law_applied, fs_neighbours, ent, svOf, List.map_cons, List.map_nil, List.cons_append, List.nil_append, List.append_nil, List.replicate, List.length_cons, List.length_nil, List.getElem?_cons_zero, List.getElem?_cons_succ, List.getElem?_nil, List.set_cons_zero, List.set_cons_succ, Option.map_some, Option.map_none, Option.isNone_some, Option.isNone_none, forall_const, true_implies, false_implies, and_true, true_and, Bool.true_eq_false, Bool.false_eq_true, reduceCtorEq, noOwn, wipeS, hide, fuN_self, lcD, dYes, Nat.zero_add, Nat.reduceAdd, Nat.reduceLeDiff, Nat.reduceSub, atI_0, atI_1, atI_2, atI_3, atI_4, atI_5, Int.one_mul, eqv_ii, eqv_ss, eqv_num, shaped_int, shaped_num, shaped_none, shaped_ru, flat_str, flat_int, flat_none, List.all_cons, List.all_nil, Bool.and_true, decide_eq_true_eq, decide_eq_false_iff_not, Bool.not_eq_true', Bool.not_eq_false', Decidable.not_not, ↓reduceIte, Bool.false_eq_true, Int.reduceLT, eqv_strs, pick_0, pick_01, pick_10, pick_012, pick_021, pick_102, pick_120, pick_201, pick_210]
  refine ⟨n, d, c, rfl, hn1, hc, n, d, c, rfl, hn1, hc, fun z => absurd z (by simp), fun _ => ⟨n, d, _, rfl, hn.is, hn.nu.n0, hn.bn.mono (by decide), hn.nu.d0, hn.bd.mono (by decide), w1, w2, shaped_nums _ _ _ _, ?_⟩⟩
  refine ⟨fun z => absurd z (by rw [ei]; decide), fun _ => ⟨_, _, c, rfl, ha1, hc, ?_⟩⟩
  rw [e2]
  refine ⟨fun z => absurd z (by simp), fun _ => ⟨_, _, _, rfl, ha.is, ha.nu.n0, ha.bn.mono (by decide), ha.nu.d0, ha.bd.mono (by decide), w1, w2, shaped_nums _ _ _ _, shaped_nums _ _ _ _, ?_⟩⟩
  rw [es, show (PyData.tuple [nm ((applI n d c).1, (applI n d c).2), nm ((applI n d c).1, (applI n d c).2)]).eqv (.tuple [nm (applI n d c), nm (applI n d c)]) = true from by rw [eqv_nums]; simp]
  exact ⟨fun z => absurd z (by decide), fun _ => h _⟩
def rtB : DS := (dSeq (dFor (dRange1 (dC (.int 10))) (dN 1)
    (dSeq (dAsg (dCall 4 fs__law_chain (dCons (dVar 0) (dCons (dBin fAdd (dC (.int 1)) (dCall 2 fs__law_draw (dCons (dVar 0) (dCons (dC (.int 4)) dNil)))) (dCons (dC (.int 4)) (dCons (dC (.int 4)) dNil))))) (dN 2))
  (dSeq (dAsg (dCall 1 fs_last_width (dCons (dVar 2) dNil)) (dN 3))
  (dFor (dItems (dCall 2 fs__law_some_numbers (dCons (dVar 0) (dCons (dVar 3) dNil)))) (dN 4)
    rtI))))
  (dRet (dC (.bool true))))
theorem p__law_right (rs : List Rv) (fu : Option Nat) (post : Rr → Option Nat → Prop) (hl : rs.length = 1) (h : fs__law_right rs fu post) : b__law_right ⟨fun g => post (.val .none) g.fu, fun r g => post r g.fu, fun _ => False, fun _ => False⟩ (ent N__law_right rs fu) := by
  obtain ⟨rfl, rfl, h⟩ := h
  show rtB _ _
  simp only [↓dSeq, ↓dAsg, ↓dSetL, ↓dNext, ↓dIfS, ↓dRet, ↓dRetL, ↓dDrop, ↓dNever, ↓dBrk, ↓dCnt, ↓dAug, ↓dPar, ↓dPar3, ↓dParL, ↓dApp, ↓dExt, ↓dVar, ↓dC, ↓dBin, ↓fI, ↓fI0, ↓fAdd, ↓fEq, ↓fNe, ↓fIn, ↓dTest, ↓dAndT, ↓dOrT, ↓dNotT, ↓dAndV, ↓dOrV, ↓dNotV, ↓dIf, ↓dNeg, ↓dIsN, ↓dChain, ↓dNil, ↓dCons, ↓dTup, ↓dLst, ↓dFz, ↓valsD, ↓dIx, ↓dCall, ↓dCallL, ↓hasSrc, ↓rrv, ↓dN, ↓dT, ↓dTn, ↓dTc, ↓rsv, ↓Gs.set, ↓dFor, ↓dItems, ↓dRange1, ↓dRange2, ↓dZip, ↓dRev, ↓dLc, ↓dCB, ↓cLen, ↓cAll, ↓cTuple, ↓cInt, ↓cInt1, ↓cInt2, ↓dIsi, ↓dBits, ↓dSetS, ↓dCallS, ↓oSub, ↓oAddI, ↓oMul, ↓oDiv, ↓oMod, ↓oShl, ↓oShr, ↓oPow, ↓oAnd, ↓oLt, ↓oLe, ↓oGt, ↓oGe, ↓oAbs, ↓oMax, ↓oMin, ↓dCallK, ↓cRepr, ↓cSum, ↓cMinL, ↓cMaxL, ↓cSorted, ↓cSortedD, ↓cList, ↓dListR, ↓fInD, ↓fMulL, ↓dSl, ↓oNo, ↓oSo, ↓dBy, rtB, ent, svOf, List.map_cons, List.map_nil, List.cons_append, List.nil_append, List.append_nil, List.replicate, List.length_cons, List.length_nil, List.getElem?_cons_zero, List.getElem?_cons_succ, List.getElem?_nil, List.set_cons_zero, List.set_cons_succ, Option.map_some, Option.map_none, Option.isNone_some, Option.isNone_none, forall_const, true_implies, false_implies, and_true, true_and, Bool.true_eq_false, Bool.false_eq_true, reduceCtorEq, noOwn, wipeS, hide, fuN_self, lcD, dYes, Nat.zero_add, Nat.reduceAdd, Nat.reduceLeDiff, Nat.reduceSub, atI_0, atI_1, atI_2, atI_3, atI_4, atI_5, Int.one_mul, eqv_ii, eqv_ss, eqv_num, shaped_int, shaped_num, shaped_none, shaped_ru, flat_str, flat_int, flat_none, List.all_cons, List.all_nil, Bool.and_true, decide_eq_true_eq, decide_eq_false_iff_not, Bool.not_eq_true', Bool.not_eq_false', Decidable.not_not, ↓reduceIte, Bool.false_eq_true, Int.reduceLT, eqv_strs, pick_0, pick_01, pick_10, pick_012, pick_021, pick_102, pick_120, pick_201, pick_210]
  refine ⟨by decide, by decide, forD_ix (k := 0) (fun k g => ∃ (m : Nat) (b c d e f : Option Sv), 1000000 ≤ m + 100 * k ∧ g = ⟨[some .src, b, c, d, e, f], some m, false⟩) (fun k x hx g hg N hN => ?_) (fun g hg => ?_) ⟨1000000, _, _, _, _, _, by omega, rfl⟩⟩
  · obtain ⟨m0, b, c, d, e, f, hm, rfl⟩ := hg
    have hk : k < 10 := by
      have := (List.getElem?_eq_some_iff.mp hx).1
      simpa [rangeD] using this
    obtain ⟨m, rfl⟩ : ∃ m, m0 = m + 1 := ⟨m0 - 1, by omega⟩
    simp only [↓dSeq, ↓dAsg, ↓dSetL, ↓dNext, ↓dIfS, ↓dRet, ↓dRetL, ↓dDrop, ↓dNever, ↓dBrk, ↓dCnt, ↓dAug, ↓dPar, ↓dPar3, ↓dParL, ↓dApp, ↓dExt, ↓dVar, ↓dC, ↓dBin, ↓fI, ↓fI0, ↓fAdd, ↓fEq, ↓fNe, ↓fIn, ↓dTest, ↓dAndT, ↓dOrT, ↓dNotT, ↓dAndV, ↓dOrV, ↓dNotV, ↓dIf, ↓dNeg, ↓dIsN, ↓dChain, ↓dNil, ↓dCons, ↓dTup, ↓dLst, ↓dFz, ↓valsD, ↓dIx, ↓dCall, ↓dCallL, ↓hasSrc, ↓rrv, ↓dN, ↓dT, ↓dTn, ↓dTc, ↓rsv, ↓Gs.set, ↓dFor, ↓dItems, ↓dRange1, ↓dRange2, ↓dZip, ↓dRev, ↓dLc, ↓dCB, ↓cLen, ↓cAll, ↓cTuple, ↓cInt, ↓cInt1, ↓cInt2, ↓dIsi, ↓dBits, ↓dSetS, ↓dCallS, ↓oSub, ↓oAddI, ↓oMul, ↓oDiv, ↓oMod, ↓oShl, ↓oShr, ↓oPow, ↓oAnd, ↓oLt, ↓oLe, ↓oGt, ↓oGe, ↓oAbs, ↓oMax, ↓oMin, ↓dCallK, ↓cRepr, ↓cSum, ↓cMinL, ↓cMaxL, ↓cSorted, ↓cSortedD, ↓cList, ↓dListR, ↓fInD, ↓fMulL, ↓dSl, ↓oNo, ↓oSo, ↓dBy, fs__law_chain, fs__law_draw, fs_last_width, fs__law_some_numbers, ent, svOf, List.map_cons, List.map_nil, List.cons_append, List.nil_append, List.append_nil, List.replicate, List.length_cons, List.length_nil, List.getElem?_cons_zero, List.getElem?_cons_succ, List.getElem?_nil, List.set_cons_zero, List.set_cons_succ, Option.map_some, Option.map_none, Option.isNone_some, Option.isNone_none, forall_const, true_implies, false_implies, and_true, true_and, Bool.true_eq_false, Bool.false_eq_true, reduceCtorEq, noOwn, wipeS, hide, fuN_self, lcD, dYes, Nat.zero_add, Nat.reduceAdd, Nat.reduceLeDiff, Nat.reduceSub, atI_0, atI_1, atI_2, atI_3, atI_4, atI_5, Int.one_mul, eqv_ii, eqv_ss, eqv_num, shaped_int, shaped_num, shaped_none, shaped_ru, flat_str, flat_int, flat_none, List.all_cons, List.all_nil, Bool.and_true, decide_eq_true_eq, decide_eq_false_iff_not, Bool.not_eq_true', Bool.not_eq_false', Decidable.not_not, ↓reduceIte, Bool.false_eq_true, Int.reduceLT, eqv_strs, pick_0, pick_01, pick_10, pick_012, pick_021, pick_102, pick_120, pick_201, pick_210]
    refine ⟨4, m, rfl, rfl, by decide, Bn.small (by decide) (by decide) (by decide), fun i i0 i1 => ⟨1 + i, 4, 4, m, rfl, rfl, by omega, by decide, by decide, by decide, by omega, by omega, fun ch m1 hm1 hd => ?_⟩⟩
    have hc := hd.chn (by omega) (by omega) (by decide)
    obtain ⟨m2, rfl⟩ : ∃ m2, m1 = m2 + 31 := ⟨m1 - 31, by omega⟩
    obtain ⟨_, w1, w2⟩ := chT_B hc.ne hc.w
    refine ⟨ch, rfl, hc, (chT ch).1, m2, rfl, rfl, w1, w2, fun zs hz => ?_⟩
    try simp only [↓dSeq, ↓dAsg, ↓dSetL, ↓dNext, ↓dIfS, ↓dRet, ↓dRetL, ↓dDrop, ↓dNever, ↓dBrk, ↓dCnt, ↓dAug, ↓dPar, ↓dPar3, ↓dParL, ↓dApp, ↓dExt, ↓dVar, ↓dC, ↓dBin, ↓fI, ↓fI0, ↓fAdd, ↓fEq, ↓fNe, ↓fIn, ↓dTest, ↓dAndT, ↓dOrT, ↓dNotT, ↓dAndV, ↓dOrV, ↓dNotV, ↓dIf, ↓dNeg, ↓dIsN, ↓dChain, ↓dNil, ↓dCons, ↓dTup, ↓dLst, ↓dFz, ↓valsD, ↓dIx, ↓dCall, ↓dCallL, ↓hasSrc, ↓rrv, ↓dN, ↓dT, ↓dTn, ↓dTc, ↓rsv, ↓Gs.set, ↓dFor, ↓dItems, ↓dRange1, ↓dRange2, ↓dZip, ↓dRev, ↓dLc, ↓dCB, ↓cLen, ↓cAll, ↓cTuple, ↓cInt, ↓cInt1, ↓cInt2, ↓dIsi, ↓dBits, ↓dSetS, ↓dCallS, ↓oSub, ↓oAddI, ↓oMul, ↓oDiv, ↓oMod, ↓oShl, ↓oShr, ↓oPow, ↓oAnd, ↓oLt, ↓oLe, ↓oGt, ↓oGe, ↓oAbs, ↓oMax, ↓oMin, ↓dCallK, ↓cRepr, ↓cSum, ↓cMinL, ↓cMaxL, ↓cSorted, ↓cSortedD, ↓cList, ↓dListR, ↓fInD, ↓fMulL, ↓dSl, ↓oNo, ↓oSo, ↓dBy, ent, svOf, List.map_cons, List.map_nil, List.cons_append, List.nil_append, List.append_nil, List.replicate, List.length_cons, List.length_nil, List.getElem?_cons_zero, List.getElem?_cons_succ, List.getElem?_nil, List.set_cons_zero, List.set_cons_succ, Option.map_some, Option.map_none, Option.isNone_some, Option.isNone_none, forall_const, true_implies, false_implies, and_true, true_and, Bool.true_eq_false, Bool.false_eq_true, reduceCtorEq, noOwn, wipeS, hide, fuN_self, lcD, dYes, Nat.zero_add, Nat.reduceAdd, Nat.reduceLeDiff, Nat.reduceSub, atI_0, atI_1, atI_2, atI_3, atI_4, atI_5, Int.one_mul, eqv_ii, eqv_ss, eqv_num, shaped_int, shaped_num, shaped_none, shaped_ru, flat_str, flat_int, flat_none, List.all_cons, List.all_nil, Bool.and_true, decide_eq_true_eq, decide_eq_false_iff_not, Bool.not_eq_true', Bool.not_eq_false', Decidable.not_not, ↓reduceIte, Bool.false_eq_true, Int.reduceLT, eqv_strs, pick_0, pick_01, pick_10, pick_012, pick_021, pick_102, pick_120, pick_201, pick_210]
    refine forD_inv (fun g => ∃ y z : Option Sv, g = ⟨[some .src, some (.val x), some (.val (chD ch)), some (.val (.int (chT ch).1)), y, z], some m2, false⟩) (fun z hz' g hg N' hN' => ?_) (fun g hg => ?_) ⟨_, _, rfl⟩
    · obtain ⟨y, u, rfl⟩ := hg
      obtain ⟨n, d, rfl, hn⟩ := hz z hz'
      simp only [↓dSeq, ↓dAsg, ↓dSetL, ↓dNext, ↓dIfS, ↓dRet, ↓dRetL, ↓dDrop, ↓dNever, ↓dBrk, ↓dCnt, ↓dAug, ↓dPar, ↓dPar3, ↓dParL, ↓dApp, ↓dExt, ↓dVar, ↓dC, ↓dBin, ↓fI, ↓fI0, ↓fAdd, ↓fEq, ↓fNe, ↓fIn, ↓dTest, ↓dAndT, ↓dOrT, ↓dNotT, ↓dAndV, ↓dOrV, ↓dNotV, ↓dIf, ↓dNeg, ↓dIsN, ↓dChain, ↓dNil, ↓dCons, ↓dTup, ↓dLst, ↓dFz, ↓valsD, ↓dIx, ↓dCall, ↓dCallL, ↓hasSrc, ↓rrv, ↓dN, ↓dT, ↓dTn, ↓dTc, ↓rsv, ↓Gs.set, ↓dFor, ↓dItems, ↓dRange1, ↓dRange2, ↓dZip, ↓dRev, ↓dLc, ↓dCB, ↓cLen, ↓cAll, ↓cTuple, ↓cInt, ↓cInt1, ↓cInt2, ↓dIsi, ↓dBits, ↓dSetS, ↓dCallS, ↓oSub, ↓oAddI, ↓oMul, ↓oDiv, ↓oMod, ↓oShl, ↓oShr, ↓oPow, ↓oAnd, ↓oLt, ↓oLe, ↓oGt, ↓oGe, ↓oAbs, ↓oMax, ↓oMin, ↓dCallK, ↓cRepr, ↓cSum, ↓cMinL, ↓cMaxL, ↓cSorted, ↓cSortedD, ↓cList, ↓dListR, ↓fInD, ↓fMulL, ↓dSl, ↓oNo, ↓oSo, ↓dBy, ent, svOf, List.map_cons, List.map_nil, List.cons_append, List.nil_append, List.append_nil, List.replicate, List.length_cons, List.length_nil, List.getElem?_cons_zero, List.getElem?_cons_succ, List.getElem?_nil, List.set_cons_zero, List.set_cons_succ, Option.map_some, Option.map_none, Option.isNone_some, Option.isNone_none, forall_const, true_implies, false_implies, and_true, true_and, Bool.true_eq_false, Bool.false_eq_true, reduceCtorEq, noOwn, wipeS, hide, fuN_self, lcD, dYes, Nat.zero_add, Nat.reduceAdd, Nat.reduceLeDiff, Nat.reduceSub, atI_0, atI_1, atI_2, atI_3, atI_4, atI_5, Int.one_mul, eqv_ii, eqv_ss, eqv_num, shaped_int, shaped_num, shaped_none, shaped_ru, flat_str, flat_int, flat_none, List.all_cons, List.all_nil, Bool.and_true, decide_eq_true_eq, decide_eq_false_iff_not, Bool.not_eq_true', Bool.not_eq_false', Decidable.not_not, ↓reduceIte, Bool.false_eq_true, Int.reduceLT, eqv_strs, pick_0, pick_01, pick_10, pick_012, pick_021, pick_102, pick_120, pick_201, pick_210]
      exact p_rtI hc hn fun y => hN' _ ⟨_, _, rfl⟩
    · obtain ⟨y, u, rfl⟩ := hg
      exact hN _ ⟨m2, _, _, _, _, _, by omega, rfl⟩
  · obtain ⟨m0, b, c, d, e, f, hm, rfl⟩ := hg
    simp only [↓dSeq, ↓dAsg, ↓dSetL, ↓dNext, ↓dIfS, ↓dRet, ↓dRetL, ↓dDrop, ↓dNever, ↓dBrk, ↓dCnt, ↓dAug, ↓dPar, ↓dPar3, ↓dParL, ↓dApp, ↓dExt, ↓dVar, ↓dC, ↓dBin, ↓fI, ↓fI0, ↓fAdd, ↓fEq, ↓fNe, ↓fIn, ↓dTest, ↓dAndT, ↓dOrT, ↓dNotT, ↓dAndV, ↓dOrV, ↓dNotV, ↓dIf, ↓dNeg, ↓dIsN, ↓dChain, ↓dNil, ↓dCons, ↓dTup, ↓dLst, ↓dFz, ↓valsD, ↓dIx, ↓dCall, ↓dCallL, ↓hasSrc, ↓rrv, ↓dN, ↓dT, ↓dTn, ↓dTc, ↓rsv, ↓Gs.set, ↓dFor, ↓dItems, ↓dRange1, ↓dRange2, ↓dZip, ↓dRev, ↓dLc, ↓dCB, ↓cLen, ↓cAll, ↓cTuple, ↓cInt, ↓cInt1, ↓cInt2, ↓dIsi, ↓dBits, ↓dSetS, ↓dCallS, ↓oSub, ↓oAddI, ↓oMul, ↓oDiv, ↓oMod, ↓oShl, ↓oShr, ↓oPow, ↓oAnd, ↓oLt, ↓oLe, ↓oGt, ↓oGe, ↓oAbs, ↓oMax, ↓oMin, ↓dCallK, ↓cRepr, ↓cSum, ↓cMinL, ↓cMaxL, ↓cSorted, ↓cSortedD, ↓cList, ↓dListR, ↓fInD, ↓fMulL, ↓dSl, ↓oNo, ↓oSo, ↓dBy, ent, svOf, List.map_cons, List.map_nil, List.cons_append, List.nil_append, List.append_nil, List.replicate, List.length_cons, List.length_nil, List.getElem?_cons_zero, List.getElem?_cons_succ, List.getElem?_nil, List.set_cons_zero, List.set_cons_succ, Option.map_some, Option.map_none, Option.isNone_some, Option.isNone_none, forall_const, true_implies, false_implies, and_true, true_and, Bool.true_eq_false, Bool.false_eq_true, reduceCtorEq, noOwn, wipeS, hide, fuN_self, lcD, dYes, Nat.zero_add, Nat.reduceAdd, Nat.reduceLeDiff, Nat.reduceSub, atI_0, atI_1, atI_2, atI_3, atI_4, atI_5, Int.one_mul, eqv_ii, eqv_ss, eqv_num, shaped_int, shaped_num, shaped_none, shaped_ru, flat_str, flat_int, flat_none, List.all_cons, List.all_nil, Bool.and_true, decide_eq_true_eq, decide_eq_false_iff_not, Bool.not_eq_true', Bool.not_eq_false', Decidable.not_not, ↓reduceIte, Bool.false_eq_true, Int.reduceLT, eqv_strs, pick_0, pick_01, pick_10, pick_012, pick_021, pick_102, pick_120, pick_201, pick_210]
    exact h _
section
variable {P : Program} {w : World} {K : Fg} {mg : Str → Option Value} {base : Heap}
theorem d__law_right (T : Tx w K mg) {cdv : Value} {A : Around} {outer : List Env} {s : Shared} {H : Hp} {E : XK} (hr : Room 7 (A.deeper (envOfC "_law_right" (defScope st__law_right) s.heap.objs.size T.f__law_right cdv))) (hgd : (A.deeper (envOfC "_law_right" (defScope st__law_right) s.heap.objs.size T.f__law_right cdv)).guards = some []) :
    PSs (cxOf CX0 P w K mg base N__law_right "_law_right" (defScope st__law_right) T.f__law_right cdv A outer s H E).nox (defBody st__law_right) (upS K b__law_right) :=
  (ss_cons (s_for PassesOwn.never rfl (i_range1 (by rfl) T.n_range e_int) (g_name (pg_name (i := 1) sc__law_right.nd rfl (.inl rfl))) (ss_cons (s_set (i := 2) sc__law_right.nd rfl (.inl rfl) (e_call (ok__law_chain T) (hr.mono (by decide)) hgd (by rfl) T.g__law_chain T.F__law_chain.kp T.b__law_chain pass0 (a_cons (e_var 0 (pv 0)) (a_cons (e_add e_int (e_call (ok__law_draw T) (hr.mono (by decide)) hgd (by rfl) T.g__law_draw T.F__law_draw.kp T.b__law_draw pass0 (a_cons (e_var 0 (pv 0)) (a_cons e_int a_nil)))) (a_cons e_int (a_cons e_int a_nil))))))
    (ss_cons (s_set (i := 3) sc__law_right.nd rfl (.inl rfl) (e_call (ok_last_width T) (hr.mono (by decide)) hgd (by rfl) T.g_last_width T.F_last_width.kp T.b_last_width pass0 (a_cons (e_var 2 (pv 2)) a_nil)))
    (ss_one (s_for PassesOwn.never rfl (i_items (e_call (ok__law_some_numbers T) (hr.mono (by decide)) hgd (by rfl) T.g__law_some_numbers T.F__law_some_numbers.kp T.b__law_some_numbers pass0 (a_cons (e_var 0 (pv 0)) (a_cons (e_var 3 (pv 3)) a_nil)))) (g_name (pg_name (i := 4) sc__law_right.nd rfl (.inl rfl))) (ss_cons (s_set (i := 5) sc__law_right.nd rfl (.inl rfl) (e_call (ok_applied T) (hr.mono (by decide)) hgd (by rfl) T.g_applied T.F_applied.kp T.b_applied pass0 (a_cons (e_var 4 (pv 4)) (a_cons (e_var 2 (pv 2)) a_nil))))
    (ss_cons (s_if (PW.pt (w_or (t_ne hr.units (e_var 5 (pv 5)) (e_call (ok__law_applied T) (hr.mono (by decide)) hgd (by rfl) T.g__law_applied T.F__law_applied.kp T.b__law_applied pass0 (a_cons (e_var 4 (pv 4)) (a_cons (e_var 2 (pv 2)) a_nil)))) (w_or1 (t_notinX hr (e_var 5 (pv 5)) (e_call (ok_neighbours T) (hr.mono (by decide)) hgd (by rfl) T.g_neighbours T.F_neighbours.kp T.b_neighbours pass0 (a_cons (e_var 4 (pv 4)) (a_cons (e_var 3 (pv 3)) a_nil))))))) (ss_one (s_ret e_bl)) ss_nil)
    (ss_one (s_if (PW.pt (w_or (t_ne hr.units (e_call (ok_applied T) (hr.mono (by decide)) hgd (by rfl) T.g_applied T.F_applied.kp T.b_applied pass0 (a_cons (e_var 5 (pv 5)) (a_cons (e_var 2 (pv 2)) a_nil))) (e_var 5 (pv 5))) (w_or1 (t_ne hr.units (e_call (ok_neighbours T) (hr.mono (by decide)) hgd (by rfl) T.g_neighbours T.F_neighbours.kp T.b_neighbours pass0 (a_cons (e_var 5 (pv 5)) (a_cons (e_var 3 (pv 3)) a_nil))) (e_tup (a_cons (e_var 5 (pv 5)) (a_cons (e_var 5 (pv 5)) a_nil))))))) (ss_one (s_ret e_bl)) ss_nil)))))))))
    (ss_one (s_ret e_bl)))
theorem ok__law_right (T : Tx w K mg) : Fn P w K mg base CX0 8 T.f__law_right T.fd__law_right ["_law_source_here"] (lift K 1 fs__law_right) := fn_data T.F__law_right sc__law_right b__law_right (fun _ _ _ _ _ _ hr hgd => d__law_right T hr hgd) p__law_right
end
--@@ law
def b_law : DS :=
  (dRet (dCB cAll (dCons (dFz (dLc [1] (dRange1 (dCB oMax (dCons (dC (.int 1)) (dCons (dCB oMin (dCons (dCB cLen (dCons (dVar 0) dNil)) (dCons (dC (.int 3)) dNil))) dNil)))) (dN 1) dYes (dCallS 1 1000000 fs__law_right (dCallL 2 fs__law_source (dCons (dVar 0) (dCons (dVar 1) dNil))) []))) dNil)))
def fs_law : FSp := fun rs fu post => ∃ ns : List Int, rs = [.scr ns] ∧ post (.val (.bool true)) fu
theorem p_law (rs : List Rv) (fu : Option Nat) (post : Rr → Option Nat → Prop) (hl : rs.length = 1) (h : fs_law rs fu post) : b_law ⟨fun g => post (.val .none) g.fu, fun r g => post r g.fu, fun _ => False, fun _ => False⟩ (ent N_law rs fu) := by
  obtain ⟨ns, rfl, h⟩ := h
  simp only [↓dSeq, ↓dAsg, ↓dSetL, ↓dNext, ↓dIfS, ↓dRet, ↓dRetL, ↓dDrop, ↓dNever, ↓dBrk, ↓dCnt, ↓dAug, ↓dPar, ↓dPar3, ↓dParL, ↓dApp, ↓dExt, ↓dVar, ↓dC, ↓dBin, ↓fI, ↓fI0, ↓fAdd, ↓fEq, ↓fNe, ↓fIn, ↓dTest, ↓dAndT, ↓dOrT, ↓dNotT, ↓dAndV, ↓dOrV, ↓dNotV, ↓dIf, ↓dNeg, ↓dIsN, ↓dChain, ↓dNil, ↓dCons, ↓dTup, ↓dLst, ↓dFz, ↓valsD, ↓dIx, ↓dCall, ↓dCallL, ↓hasSrc, ↓rrv, ↓dN, ↓dT, ↓dTn, ↓dTc, ↓rsv, ↓Gs.set, ↓dFor, ↓dItems, ↓dRange1, ↓dRange2, ↓dZip, ↓dRev, ↓dLc, ↓dCB, ↓cLen, ↓cAll, ↓cTuple, ↓cInt, ↓cInt1, ↓cInt2, ↓dIsi, ↓dBits, ↓dSetS, ↓dCallS, ↓oSub, ↓oAddI, ↓oMul, ↓oDiv, ↓oMod, ↓oShl, ↓oShr, ↓oPow, ↓oAnd, ↓oLt, ↓oLe, ↓oGt, ↓oGe, ↓oAbs, ↓oMax, ↓oMin, ↓dCallK, ↓cRepr, ↓cSum, ↓cMinL, ↓cMaxL, ↓cSorted, ↓cSortedD, ↓cList, ↓dListR, ↓fInD, ↓fMulL, ↓dSl, ↓oNo, ↓oSo, ↓dBy, b_law, ent, svOf, List.map_cons, List.map_nil, List.cons_append, List.nil_append, List.append_nil, List.replicate, List.length_cons, List.length_nil, List.getElem?_cons_zero, List.getElem?_cons_succ, List.getElem?_nil, List.set_cons_zero, List.set_cons_succ, Option.map_some, Option.map_none, Option.isNone_some, Option.isNone_none, forall_const, true_implies, false_implies, and_true, true_and, Bool.true_eq_false, Bool.false_eq_true, reduceCtorEq, noOwn, wipeS, hide, fuN_self, lcD, dYes, Nat.zero_add, Nat.reduceAdd, Nat.reduceLeDiff, Nat.reduceSub, atI_0, atI_1, atI_2, atI_3, atI_4, atI_5, Int.one_mul, eqv_ii, eqv_ss, eqv_num, shaped_int, shaped_num, shaped_none, shaped_ru, flat_str, flat_int, flat_none, List.all_cons, List.all_nil, Bool.and_true, decide_eq_true_eq, decide_eq_false_iff_not, Bool.not_eq_true', Bool.not_eq_false', Decidable.not_not, ↓reduceIte, Bool.false_eq_true, Int.reduceLT, eqv_strs, pick_0, pick_01, pick_10, pick_012, pick_021, pick_102, pick_120, pick_201, pick_210]
  generalize hj : (if (if (3 : Int) < _ then _ else _) > (1 : Int) then _ else _) = j
  have j0 : j ≤ 3 ∧ 0 ≤ j := by subst hj; split <;> (try split) <;> omega
  refine ⟨by omega, by omega, lc_map (fun _ => .bool true) (fun x hx R hR => ?_) ?_ ?_⟩
  · obtain ⟨i, rfl, i0, i1⟩ := rangeD_mem hx
    simp only [↓dSeq, ↓dAsg, ↓dSetL, ↓dNext, ↓dIfS, ↓dRet, ↓dRetL, ↓dDrop, ↓dNever, ↓dBrk, ↓dCnt, ↓dAug, ↓dPar, ↓dPar3, ↓dParL, ↓dApp, ↓dExt, ↓dVar, ↓dC, ↓dBin, ↓fI, ↓fI0, ↓fAdd, ↓fEq, ↓fNe, ↓fIn, ↓dTest, ↓dAndT, ↓dOrT, ↓dNotT, ↓dAndV, ↓dOrV, ↓dNotV, ↓dIf, ↓dNeg, ↓dIsN, ↓dChain, ↓dNil, ↓dCons, ↓dTup, ↓dLst, ↓dFz, ↓valsD, ↓dIx, ↓dCall, ↓dCallL, ↓hasSrc, ↓rrv, ↓dN, ↓dT, ↓dTn, ↓dTc, ↓rsv, ↓Gs.set, ↓dFor, ↓dItems, ↓dRange1, ↓dRange2, ↓dZip, ↓dRev, ↓dLc, ↓dCB, ↓cLen, ↓cAll, ↓cTuple, ↓cInt, ↓cInt1, ↓cInt2, ↓dIsi, ↓dBits, ↓dSetS, ↓dCallS, ↓oSub, ↓oAddI, ↓oMul, ↓oDiv, ↓oMod, ↓oShl, ↓oShr, ↓oPow, ↓oAnd, ↓oLt, ↓oLe, ↓oGt, ↓oGe, ↓oAbs, ↓oMax, ↓oMin, ↓dCallK, ↓cRepr, ↓cSum, ↓cMinL, ↓cMaxL, ↓cSorted, ↓cSortedD, ↓cList, ↓dListR, ↓fInD, ↓fMulL, ↓dSl, ↓oNo, ↓oSo, ↓dBy, fs__law_source, fs__law_right, ent, svOf, List.map_cons, List.map_nil, List.cons_append, List.nil_append, List.append_nil, List.replicate, List.length_cons, List.length_nil, List.getElem?_cons_zero, List.getElem?_cons_succ, List.getElem?_nil, List.set_cons_zero, List.set_cons_succ, Option.map_some, Option.map_none, Option.isNone_some, Option.isNone_none, forall_const, true_implies, false_implies, and_true, true_and, Bool.true_eq_false, Bool.false_eq_true, reduceCtorEq, noOwn, wipeS, hide, fuN_self, lcD, dYes, Nat.zero_add, Nat.reduceAdd, Nat.reduceLeDiff, Nat.reduceSub, atI_0, atI_1, atI_2, atI_3, atI_4, atI_5, Int.one_mul, eqv_ii, eqv_ss, eqv_num, shaped_int, shaped_num, shaped_none, shaped_ru, flat_str, flat_int, flat_none, List.all_cons, List.all_nil, Bool.and_true, decide_eq_true_eq, decide_eq_false_iff_not, Bool.not_eq_true', Bool.not_eq_false', Decidable.not_not, ↓reduceIte, Bool.false_eq_true, Int.reduceLT, eqv_strs, pick_0, pick_01, pick_10, pick_012, pick_021, pick_102, pick_120, pick_201, pick_210]
    exact ⟨ns, i, rfl, i0, by omega, fun x y hx0 hx hy0 hy => ⟨⟨x, y, 0, rfl, hx0, hx, hy0, hy, by decide, by decide⟩, hR _ rfl⟩⟩
  · simp [rangeD]; omega
  · rw [List.nil_append, boolsD_true]
    simp only [all_true]
    exact h
theorem law_true (ns : List Int) (hn : ns.length ≤ 63) : fs_law [.scr ns] none fun r _ => r = .val (.bool true) := ⟨ns, rfl, rfl⟩
section
variable {P : Program} {w : World} {K : Fg} {mg : Str → Option Value} {base : Heap}
theorem d_law (T : Tx w K mg) {cdv : Value} {A : Around} {outer : List Env} {s : Shared} {H : Hp} {E : XK} (hr : Room 8 (A.deeper (envOfC "law" (defScope st_law) s.heap.objs.size T.f_law cdv))) (hgd : (A.deeper (envOfC "law" (defScope st_law) s.heap.objs.size T.f_law cdv)).guards = some []) :
    PSs (cxOf CX0 P w K mg base N_law "law" (defScope st_law) T.f_law cdv A outer s H E).nox (defBody st_law) (upS K b_law) :=
  (ss_one (s_ret (e_all rfl (by rfl) T.n_all (a_cons (e_fz (e_lc (own := [("_law_k", 1)]) rfl sc_law.nd (i_range1 (by rfl) T.n_range (e_max rfl (by rfl) T.n_max (a_cons e_int (a_cons (e_min rfl (by rfl) T.n_min (a_cons (e_len (by rfl) T.n_len (a_cons (e_var 0 (pv 0)) a_nil)) (a_cons e_int a_nil))) a_nil)))) (blkOk_by (own := [("_law_k", 1)]) (N := N_law) (sc := defScope st_law) (by decide +kernel)) (fun _ _ _ _ _ => (gw_name rfl (pg_name (i := 1) sc_law.nd rfl (.inl rfl)) (by decide))) (fun _ _ _ _ _ => ts_yes) (fun _ _ _ _ _ => (e_callS 1000000 (ok__law_right T) (hr.mono (by decide)) hgd (by rfl) T.g__law_right T.F__law_right.kp T.b__law_right pass0 (e_callL (ok__law_source T) (hr.mono (by decide)) hgd (by rfl) T.g__law_source T.F__law_source.kp T.b__law_source pass0 (a_cons (e_var 0 (pv 0)) (a_cons (e_var 1 (pv 1)) a_nil))) as_nil (fun _ _ _ => .nil))))) a_nil))))
theorem ok_law (T : Tx w K mg) : Fn P w K mg base CX0 9 T.f_law T.fd_law ["_law_script"] (lift K 1 fs_law) := fn_data T.F_law sc_law b_law (fun _ _ _ _ _ _ hr hgd => d_law T hr hgd) p_law
end
def mkTx {w : World} {K : Fg} {h : Heap} {mg : Str → Option Value} (X : K.In h) (G : h.Ns mainGlobals mg) {f0 : Addr} {od0 an0 : Option Addr} {sl0 : Array (Option Value)} {oc0 kV0 dc0 pm0 cd0 ct0 : Value} {f1 : Addr} {od1 an1 : Option Addr} {sl1 : Array (Option Value)} {oc1 kV1 dc1 pm1 cd1 ct1 : Value} {f2 : Addr} {od2 an2 : Option Addr} {sl2 : Array (Option Value)} {oc2 kV2 dc2 pm2 cd2 ct2 : Value} {f3 : Addr} {od3 an3 : Option Addr} {sl3 : Array (Option Value)} {oc3 kV3 dc3 pm3 cd3 ct3 : Value} {f4 : Addr} {od4 an4 : Option Addr} {sl4 : Array (Option Value)} {oc4 kV4 dc4 pm4 cd4 ct4 : Value} {f5 : Addr} {od5 an5 : Option Addr} {sl5 : Array (Option Value)} {oc5 kV5 dc5 pm5 cd5 ct5 : Value} {f6 : Addr} {od6 an6 : Option Addr} {sl6 : Array (Option Value)} {oc6 kV6 dc6 pm6 cd6 ct6 : Value} {f7 : Addr} {od7 an7 : Option Addr} {sl7 : Array (Option Value)} {oc7 kV7 dc7 pm7 cd7 ct7 : Value} {f8 : Addr} {od8 an8 : Option Addr} {sl8 : Array (Option Value)} {oc8 kV8 dc8 pm8 cd8 ct8 : Value} {f9 : Addr} {od9 an9 : Option Addr} {sl9 : Array (Option Value)} {oc9 kV9 dc9 pm9 cd9 ct9 : Value} {f10 : Addr} {od10 an10 : Option Addr} {sl10 : Array (Option Value)} {oc10 kV10 dc10 pm10 cd10 ct10 : Value} {f11 : Addr} {od11 an11 : Option Addr} {sl11 : Array (Option Value)} {oc11 kV11 dc11 pm11 cd11 ct11 : Value} {f12 : Addr} {od12 an12 : Option Addr} {sl12 : Array (Option Value)} {oc12 kV12 dc12 pm12 cd12 ct12 : Value} {f13 : Addr} {od13 an13 : Option Addr} {sl13 : Array (Option Value)} {oc13 kV13 dc13 pm13 cd13 ct13 : Value} {f14 : Addr} {od14 an14 : Option Addr} {sl14 : Array (Option Value)} {oc14 kV14 dc14 pm14 cd14 ct14 : Value} {f15 : Addr} {od15 an15 : Option Addr} {sl15 : Array (Option Value)} {oc15 kV15 dc15 pm15 cd15 ct15 : Value} {f16 : Addr} {od16 an16 : Option Addr} {sl16 : Array (Option Value)} {oc16 kV16 dc16 pm16 cd16 ct16 : Value} {f17 : Addr} {od17 an17 : Option Addr} {sl17 : Array (Option Value)} {oc17 kV17 dc17 pm17 cd17 ct17 : Value} {f18 : Addr} {od18 an18 : Option Addr} {sl18 : Array (Option Value)} {oc18 kV18 dc18 pm18 cd18 ct18 : Value} {f19 : Addr} {od19 an19 : Option Addr} {sl19 : Array (Option Value)} {oc19 kV19 dc19 pm19 cd19 ct19 : Value} {f20 : Addr} {od20 an20 : Option Addr} {sl20 : Array (Option Value)} {oc20 kV20 dc20 pm20 cd20 ct20 : Value} {f21 : Addr} {od21 an21 : Option Addr} {sl21 : Array (Option Value)} {oc21 kV21 dc21 pm21 cd21 ct21 : Value} {f22 : Addr} {od22 an22 : Option Addr} {sl22 : Array (Option Value)} {oc22 kV22 dc22 pm22 cd22 ct22 : Value} {f23 : Addr} {od23 an23 : Option Addr} {sl23 : Array (Option Value)} {oc23 kV23 dc23 pm23 cd23 ct23 : Value} {f24 : Addr} {od24 an24 : Option Addr} {sl24 : Array (Option Value)} {oc24 kV24 dc24 pm24 cd24 ct24 : Value} {f25 : Addr} {od25 an25 : Option Addr} {sl25 : Array (Option Value)} {oc25 kV25 dc25 pm25 cd25 ct25 : Value} {f26 : Addr} {od26 an26 : Option Addr} {sl26 : Array (Option Value)} {oc26 kV26 dc26 pm26 cd26 ct26 : Value} {f27 : Addr} {od27 an27 : Option Addr} {sl27 : Array (Option Value)} {oc27 kV27 dc27 pm27 cd27 ct27 : Value} {f28 : Addr} {od28 an28 : Option Addr} {sl28 : Array (Option Value)} {oc28 kV28 dc28 pm28 cd28 ct28 : Value} {f29 : Addr} {od29 an29 : Option Addr} {sl29 : Array (Option Value)} {oc29 kV29 dc29 pm29 cd29 ct29 : Value} {f30 : Addr} {od30 an30 : Option Addr} {sl30 : Array (Option Value)} {oc30 kV30 dc30 pm30 cd30 ct30 : Value} {f31 : Addr} {od31 an31 : Option Addr} {sl31 : Array (Option Value)} {oc31 kV31 dc31 pm31 cd31 ct31 : Value} {f32 : Addr} {od32 an32 : Option Addr} {sl32 : Array (Option Value)} {oc32 kV32 dc32 pm32 cd32 ct32 : Value} {f33 : Addr} {od33 an33 : Option Addr} {sl33 : Array (Option Value)} {oc33 kV33 dc33 pm33 cd33 ct33 : Value} {f34 : Addr} {od34 an34 : Option Addr} {sl34 : Array (Option Value)} {oc34 kV34 dc34 pm34 cd34 ct34 : Value} {f35 : Addr} {od35 an35 : Option Addr} {sl35 : Array (Option Value)} {oc35 kV35 dc35 pm35 cd35 ct35 : Value} {f36 : Addr} {od36 an36 : Option Addr} {sl36 : Array (Option Value)} {oc36 kV36 dc36 pm36 cd36 ct36 : Value} {f37 : Addr} {od37 an37 : Option Addr} {sl37 : Array (Option Value)} {oc37 kV37 dc37 pm37 cd37 ct37 : Value} {f38 : Addr} {od38 an38 : Option Addr} {sl38 : Array (Option Value)} {oc38 kV38 dc38 pm38 cd38 ct38 : Value} {f39 : Addr} {od39 an39 : Option Addr} {sl39 : Array (Option Value)} {oc39 kV39 dc39 pm39 cd39 ct39 : Value} {tk_DOWN : Tok} {tk_HALF_EVEN : Tok} {tk_HALF_UP : Tok} {tk_MOST_STEPS : Tok} {tk_MOST_WIDTH : Tok} {tk_ODD : Tok} {tk_PAIR_cells : Tok} {tk_PAIR_chains : Tok} {tk_RULES_0 : Tok} {tk_RULES_1 : Tok} {tk_RULES_2 : Tok} {tk_RULES_3 : Tok} {tk_RULES_4 : Tok} {tk_RULES_5 : Tok} {ra_RULES : Addr} {rd_RULES : Option Addr} {rn_RULES : Nat} {rs_RULES : Array (Option Value)} {tk_UP : Tok}
    (a0 : PySem.W.nsIn K mainGlobals "is_int" = some (some (.ref f0))) (l0 : K.lookup f0 = some ⟨oc0, od0, .func (PySem.W.fnOf "is_int" "is_int" (defArgs st_is_int) (defBody st_is_int) (defScope st_is_int) .none kV0 dc0 pm0 an0 cd0 ct0), sl0⟩) (c0 : PySem.W.codeIn K cd0 "is_int" = true) (k0 : PySem.W.keepIn K (.ref f0) = true)
    (a1 : PySem.W.nsIn K mainGlobals "common_divisor" = some (some (.ref f1))) (l1 : K.lookup f1 = some ⟨oc1, od1, .func (PySem.W.fnOf "common_divisor" "common_divisor" (defArgs st_common_divisor) (defBody st_common_divisor) (defScope st_common_divisor) .none kV1 dc1 pm1 an1 cd1 ct1), sl1⟩) (c1 : PySem.W.codeIn K cd1 "common_divisor" = true) (k1 : PySem.W.keepIn K (.ref f1) = true)
    (a2 : PySem.W.nsIn K mainGlobals "lowest" = some (some (.ref f2))) (l2 : K.lookup f2 = some ⟨oc2, od2, .func (PySem.W.fnOf "lowest" "lowest" (defArgs st_lowest) (defBody st_lowest) (defScope st_lowest) .none kV2 dc2 pm2 an2 cd2 ct2), sl2⟩) (c2 : PySem.W.codeIn K cd2 "lowest" = true) (k2 : PySem.W.keepIn K (.ref f2) = true)
    (a3 : PySem.W.nsIn K mainGlobals "is_number" = some (some (.ref f3))) (l3 : K.lookup f3 = some ⟨oc3, od3, .func (PySem.W.fnOf "is_number" "is_number" (defArgs st_is_number) (defBody st_is_number) (defScope st_is_number) .none kV3 dc3 pm3 an3 cd3 ct3), sl3⟩) (c3 : PySem.W.codeIn K cd3 "is_number" = true) (k3 : PySem.W.keepIn K (.ref f3) = true)
    (a4 : PySem.W.nsIn K mainGlobals "is_width" = some (some (.ref f4))) (l4 : K.lookup f4 = some ⟨oc4, od4, .func (PySem.W.fnOf "is_width" "is_width" (defArgs st_is_width) (defBody st_is_width) (defScope st_is_width) .none kV4 dc4 pm4 an4 cd4 ct4), sl4⟩) (c4 : PySem.W.codeIn K cd4 "is_width" = true) (k4 : PySem.W.keepIn K (.ref f4) = true)
    (a5 : PySem.W.nsIn K mainGlobals "check_number" = some (some (.ref f5))) (l5 : K.lookup f5 = some ⟨oc5, od5, .func (PySem.W.fnOf "check_number" "check_number" (defArgs st_check_number) (defBody st_check_number) (defScope st_check_number) .none kV5 dc5 pm5 an5 cd5 ct5), sl5⟩) (c5 : PySem.W.codeIn K cd5 "check_number" = true) (k5 : PySem.W.keepIn K (.ref f5) = true)
    (a6 : PySem.W.nsIn K mainGlobals "check_width" = some (some (.ref f6))) (l6 : K.lookup f6 = some ⟨oc6, od6, .func (PySem.W.fnOf "check_width" "check_width" (defArgs st_check_width) (defBody st_check_width) (defScope st_check_width) .none kV6 dc6 pm6 an6 cd6 ct6), sl6⟩) (c6 : PySem.W.codeIn K cd6 "check_width" = true) (k6 : PySem.W.keepIn K (.ref f6) = true)
    (a7 : PySem.W.nsIn K mainGlobals "scaled" = some (some (.ref f7))) (l7 : K.lookup f7 = some ⟨oc7, od7, .func (PySem.W.fnOf "scaled" "scaled" (defArgs st_scaled) (defBody st_scaled) (defScope st_scaled) .none kV7 dc7 pm7 an7 cd7 ct7), sl7⟩) (c7 : PySem.W.codeIn K cd7 "scaled" = true) (k7 : PySem.W.keepIn K (.ref f7) = true)
    (a8 : PySem.W.nsIn K mainGlobals "power_number" = some (some (.ref f8))) (l8 : K.lookup f8 = some ⟨oc8, od8, .func (PySem.W.fnOf "power_number" "power_number" (defArgs st_power_number) (defBody st_power_number) (defScope st_power_number) .none kV8 dc8 pm8 an8 cd8 ct8), sl8⟩) (c8 : PySem.W.codeIn K cd8 "power_number" = true) (k8 : PySem.W.keepIn K (.ref f8) = true)
    (a9 : PySem.W.nsIn K mainGlobals "cell_of" = some (some (.ref f9))) (l9 : K.lookup f9 = some ⟨oc9, od9, .func (PySem.W.fnOf "cell_of" "cell_of" (defArgs st_cell_of) (defBody st_cell_of) (defScope st_cell_of) .none kV9 dc9 pm9 an9 cd9 ct9), sl9⟩) (c9 : PySem.W.codeIn K cd9 "cell_of" = true) (k9 : PySem.W.keepIn K (.ref f9) = true)
    (a10 : PySem.W.nsIn K mainGlobals "position_of" = some (some (.ref f10))) (l10 : K.lookup f10 = some ⟨oc10, od10, .func (PySem.W.fnOf "position_of" "position_of" (defArgs st_position_of) (defBody st_position_of) (defScope st_position_of) .none kV10 dc10 pm10 an10 cd10 ct10), sl10⟩) (c10 : PySem.W.codeIn K cd10 "position_of" = true) (k10 : PySem.W.keepIn K (.ref f10) = true)
    (a11 : PySem.W.nsIn K mainGlobals "is_rule" = some (some (.ref f11))) (l11 : K.lookup f11 = some ⟨oc11, od11, .func (PySem.W.fnOf "is_rule" "is_rule" (defArgs st_is_rule) (defBody st_is_rule) (defScope st_is_rule) .none kV11 dc11 pm11 an11 cd11 ct11), sl11⟩) (c11 : PySem.W.codeIn K cd11 "is_rule" = true) (k11 : PySem.W.keepIn K (.ref f11) = true)
    (a12 : PySem.W.nsIn K mainGlobals "ends_of" = some (some (.ref f12))) (l12 : K.lookup f12 = some ⟨oc12, od12, .func (PySem.W.fnOf "ends_of" "ends_of" (defArgs st_ends_of) (defBody st_ends_of) (defScope st_ends_of) .none kV12 dc12 pm12 an12 cd12 ct12), sl12⟩) (c12 : PySem.W.codeIn K cd12 "ends_of" = true) (k12 : PySem.W.keepIn K (.ref f12) = true)
    (a13 : PySem.W.nsIn K mainGlobals "goes_up" = some (some (.ref f13))) (l13 : K.lookup f13 = some ⟨oc13, od13, .func (PySem.W.fnOf "goes_up" "goes_up" (defArgs st_goes_up) (defBody st_goes_up) (defScope st_goes_up) .none kV13 dc13 pm13 an13 cd13 ct13), sl13⟩) (c13 : PySem.W.codeIn K cd13 "goes_up" = true) (k13 : PySem.W.keepIn K (.ref f13) = true)
    (a14 : PySem.W.nsIn K mainGlobals "round_once" = some (some (.ref f14))) (l14 : K.lookup f14 = some ⟨oc14, od14, .func (PySem.W.fnOf "round_once" "round_once" (defArgs st_round_once) (defBody st_round_once) (defScope st_round_once) .none kV14 dc14 pm14 an14 cd14 ct14), sl14⟩) (c14 : PySem.W.codeIn K cd14 "round_once" = true) (k14 : PySem.W.keepIn K (.ref f14) = true)
    (a15 : PySem.W.nsIn K mainGlobals "neighbours" = some (some (.ref f15))) (l15 : K.lookup f15 = some ⟨oc15, od15, .func (PySem.W.fnOf "neighbours" "neighbours" (defArgs st_neighbours) (defBody st_neighbours) (defScope st_neighbours) .none kV15 dc15 pm15 an15 cd15 ct15), sl15⟩) (c15 : PySem.W.codeIn K cd15 "neighbours" = true) (k15 : PySem.W.keepIn K (.ref f15) = true)
    (a16 : PySem.W.nsIn K mainGlobals "is_step" = some (some (.ref f16))) (l16 : K.lookup f16 = some ⟨oc16, od16, .func (PySem.W.fnOf "is_step" "is_step" (defArgs st_is_step) (defBody st_is_step) (defScope st_is_step) .none kV16 dc16 pm16 an16 cd16 ct16), sl16⟩) (c16 : PySem.W.codeIn K cd16 "is_step" = true) (k16 : PySem.W.keepIn K (.ref f16) = true)
    (a17 : PySem.W.nsIn K mainGlobals "is_chain" = some (some (.ref f17))) (l17 : K.lookup f17 = some ⟨oc17, od17, .func (PySem.W.fnOf "is_chain" "is_chain" (defArgs st_is_chain) (defBody st_is_chain) (defScope st_is_chain) .none kV17 dc17 pm17 an17 cd17 ct17), sl17⟩) (c17 : PySem.W.codeIn K cd17 "is_chain" = true) (k17 : PySem.W.keepIn K (.ref f17) = true)
    (a18 : PySem.W.nsIn K mainGlobals "check_chain" = some (some (.ref f18))) (l18 : K.lookup f18 = some ⟨oc18, od18, .func (PySem.W.fnOf "check_chain" "check_chain" (defArgs st_check_chain) (defBody st_check_chain) (defScope st_check_chain) .none kV18 dc18 pm18 an18 cd18 ct18), sl18⟩) (c18 : PySem.W.codeIn K cd18 "check_chain" = true) (k18 : PySem.W.keepIn K (.ref f18) = true)
    (a19 : PySem.W.nsIn K mainGlobals "last_width" = some (some (.ref f19))) (l19 : K.lookup f19 = some ⟨oc19, od19, .func (PySem.W.fnOf "last_width" "last_width" (defArgs st_last_width) (defBody st_last_width) (defScope st_last_width) .none kV19 dc19 pm19 an19 cd19 ct19), sl19⟩) (c19 : PySem.W.codeIn K cd19 "last_width" = true) (k19 : PySem.W.keepIn K (.ref f19) = true)
    (a20 : PySem.W.nsIn K mainGlobals "stages" = some (some (.ref f20))) (l20 : K.lookup f20 = some ⟨oc20, od20, .func (PySem.W.fnOf "stages" "stages" (defArgs st_stages) (defBody st_stages) (defScope st_stages) .none kV20 dc20 pm20 an20 cd20 ct20), sl20⟩) (c20 : PySem.W.codeIn K cd20 "stages" = true) (k20 : PySem.W.keepIn K (.ref f20) = true)
    (a21 : PySem.W.nsIn K mainGlobals "applied" = some (some (.ref f21))) (l21 : K.lookup f21 = some ⟨oc21, od21, .func (PySem.W.fnOf "applied" "applied" (defArgs st_applied) (defBody st_applied) (defScope st_applied) .none kV21 dc21 pm21 an21 cd21 ct21), sl21⟩) (c21 : PySem.W.codeIn K cd21 "applied" = true) (k21 : PySem.W.keepIn K (.ref f21) = true)
    (a22 : PySem.W.nsIn K mainGlobals "_law_source" = some (some (.ref f22))) (l22 : K.lookup f22 = some ⟨oc22, od22, .func (PySem.W.fnOf "_law_source" "_law_source" (defArgs st__law_source) (defBody st__law_source) (defScope st__law_source) .none kV22 dc22 pm22 an22 cd22 ct22), sl22⟩) (c22 : PySem.W.codeIn K cd22 "_law_source" = true) (k22 : PySem.W.keepIn K (.ref f22) = true)
    (a23 : PySem.W.nsIn K mainGlobals "_law_draw" = some (some (.ref f23))) (l23 : K.lookup f23 = some ⟨oc23, od23, .func (PySem.W.fnOf "_law_draw" "_law_draw" (defArgs st__law_draw) (defBody st__law_draw) (defScope st__law_draw) .none kV23 dc23 pm23 an23 cd23 ct23), sl23⟩) (c23 : PySem.W.codeIn K cd23 "_law_draw" = true) (k23 : PySem.W.keepIn K (.ref f23) = true)
    (a24 : PySem.W.nsIn K mainGlobals "_law_pick" = some (some (.ref f24))) (l24 : K.lookup f24 = some ⟨oc24, od24, .func (PySem.W.fnOf "_law_pick" "_law_pick" (defArgs st__law_pick) (defBody st__law_pick) (defScope st__law_pick) .none kV24 dc24 pm24 an24 cd24 ct24), sl24⟩) (c24 : PySem.W.codeIn K cd24 "_law_pick" = true) (k24 : PySem.W.keepIn K (.ref f24) = true)
    (a25 : PySem.W.nsIn K mainGlobals "_law_divisor" = some (some (.ref f25))) (l25 : K.lookup f25 = some ⟨oc25, od25, .func (PySem.W.fnOf "_law_divisor" "_law_divisor" (defArgs st__law_divisor) (defBody st__law_divisor) (defScope st__law_divisor) .none kV25 dc25 pm25 an25 cd25 ct25), sl25⟩) (c25 : PySem.W.codeIn K cd25 "_law_divisor" = true) (k25 : PySem.W.keepIn K (.ref f25) = true)
    (a26 : PySem.W.nsIn K mainGlobals "_law_low" = some (some (.ref f26))) (l26 : K.lookup f26 = some ⟨oc26, od26, .func (PySem.W.fnOf "_law_low" "_law_low" (defArgs st__law_low) (defBody st__law_low) (defScope st__law_low) .none kV26 dc26 pm26 an26 cd26 ct26), sl26⟩) (c26 : PySem.W.codeIn K cd26 "_law_low" = true) (k26 : PySem.W.keepIn K (.ref f26) = true)
    (a27 : PySem.W.nsIn K mainGlobals "_law_scaled" = some (some (.ref f27))) (l27 : K.lookup f27 = some ⟨oc27, od27, .func (PySem.W.fnOf "_law_scaled" "_law_scaled" (defArgs st__law_scaled) (defBody st__law_scaled) (defScope st__law_scaled) .none kV27 dc27 pm27 an27 cd27 ct27), sl27⟩) (c27 : PySem.W.codeIn K cd27 "_law_scaled" = true) (k27 : PySem.W.keepIn K (.ref f27) = true)
    (a28 : PySem.W.nsIn K mainGlobals "_law_number" = some (some (.ref f28))) (l28 : K.lookup f28 = some ⟨oc28, od28, .func (PySem.W.fnOf "_law_number" "_law_number" (defArgs st__law_number) (defBody st__law_number) (defScope st__law_number) .none kV28 dc28 pm28 an28 cd28 ct28), sl28⟩) (c28 : PySem.W.codeIn K cd28 "_law_number" = true) (k28 : PySem.W.keepIn K (.ref f28) = true)
    (a29 : PySem.W.nsIn K mainGlobals "_law_cell_of" = some (some (.ref f29))) (l29 : K.lookup f29 = some ⟨oc29, od29, .func (PySem.W.fnOf "_law_cell_of" "_law_cell_of" (defArgs st__law_cell_of) (defBody st__law_cell_of) (defScope st__law_cell_of) .none kV29 dc29 pm29 an29 cd29 ct29), sl29⟩) (c29 : PySem.W.codeIn K cd29 "_law_cell_of" = true) (k29 : PySem.W.keepIn K (.ref f29) = true)
    (a30 : PySem.W.nsIn K mainGlobals "_law_place" = some (some (.ref f30))) (l30 : K.lookup f30 = some ⟨oc30, od30, .func (PySem.W.fnOf "_law_place" "_law_place" (defArgs st__law_place) (defBody st__law_place) (defScope st__law_place) .none kV30 dc30 pm30 an30 cd30 ct30), sl30⟩) (c30 : PySem.W.codeIn K cd30 "_law_place" = true) (k30 : PySem.W.keepIn K (.ref f30) = true)
    (a31 : PySem.W.nsIn K mainGlobals "_law_end" = some (some (.ref f31))) (l31 : K.lookup f31 = some ⟨oc31, od31, .func (PySem.W.fnOf "_law_end" "_law_end" (defArgs st__law_end) (defBody st__law_end) (defScope st__law_end) .none kV31 dc31 pm31 an31 cd31 ct31), sl31⟩) (c31 : PySem.W.codeIn K cd31 "_law_end" = true) (k31 : PySem.W.keepIn K (.ref f31) = true)
    (a32 : PySem.W.nsIn K mainGlobals "_law_goes_up" = some (some (.ref f32))) (l32 : K.lookup f32 = some ⟨oc32, od32, .func (PySem.W.fnOf "_law_goes_up" "_law_goes_up" (defArgs st__law_goes_up) (defBody st__law_goes_up) (defScope st__law_goes_up) .none kV32 dc32 pm32 an32 cd32 ct32), sl32⟩) (c32 : PySem.W.codeIn K cd32 "_law_goes_up" = true) (k32 : PySem.W.keepIn K (.ref f32) = true)
    (a33 : PySem.W.nsIn K mainGlobals "_law_rounded" = some (some (.ref f33))) (l33 : K.lookup f33 = some ⟨oc33, od33, .func (PySem.W.fnOf "_law_rounded" "_law_rounded" (defArgs st__law_rounded) (defBody st__law_rounded) (defScope st__law_rounded) .none kV33 dc33 pm33 an33 cd33 ct33), sl33⟩) (c33 : PySem.W.codeIn K cd33 "_law_rounded" = true) (k33 : PySem.W.keepIn K (.ref f33) = true)
    (a34 : PySem.W.nsIn K mainGlobals "_law_rule" = some (some (.ref f34))) (l34 : K.lookup f34 = some ⟨oc34, od34, .func (PySem.W.fnOf "_law_rule" "_law_rule" (defArgs st__law_rule) (defBody st__law_rule) (defScope st__law_rule) .none kV34 dc34 pm34 an34 cd34 ct34), sl34⟩) (c34 : PySem.W.codeIn K cd34 "_law_rule" = true) (k34 : PySem.W.keepIn K (.ref f34) = true)
    (a35 : PySem.W.nsIn K mainGlobals "_law_chain" = some (some (.ref f35))) (l35 : K.lookup f35 = some ⟨oc35, od35, .func (PySem.W.fnOf "_law_chain" "_law_chain" (defArgs st__law_chain) (defBody st__law_chain) (defScope st__law_chain) .none kV35 dc35 pm35 an35 cd35 ct35), sl35⟩) (c35 : PySem.W.codeIn K cd35 "_law_chain" = true) (k35 : PySem.W.keepIn K (.ref f35) = true)
    (a36 : PySem.W.nsIn K mainGlobals "_law_applied" = some (some (.ref f36))) (l36 : K.lookup f36 = some ⟨oc36, od36, .func (PySem.W.fnOf "_law_applied" "_law_applied" (defArgs st__law_applied) (defBody st__law_applied) (defScope st__law_applied) .none kV36 dc36 pm36 an36 cd36 ct36), sl36⟩) (c36 : PySem.W.codeIn K cd36 "_law_applied" = true) (k36 : PySem.W.keepIn K (.ref f36) = true)
    (a37 : PySem.W.nsIn K mainGlobals "_law_some_numbers" = some (some (.ref f37))) (l37 : K.lookup f37 = some ⟨oc37, od37, .func (PySem.W.fnOf "_law_some_numbers" "_law_some_numbers" (defArgs st__law_some_numbers) (defBody st__law_some_numbers) (defScope st__law_some_numbers) .none kV37 dc37 pm37 an37 cd37 ct37), sl37⟩) (c37 : PySem.W.codeIn K cd37 "_law_some_numbers" = true) (k37 : PySem.W.keepIn K (.ref f37) = true)
    (a38 : PySem.W.nsIn K mainGlobals "_law_right" = some (some (.ref f38))) (l38 : K.lookup f38 = some ⟨oc38, od38, .func (PySem.W.fnOf "_law_right" "_law_right" (defArgs st__law_right) (defBody st__law_right) (defScope st__law_right) .none kV38 dc38 pm38 an38 cd38 ct38), sl38⟩) (c38 : PySem.W.codeIn K cd38 "_law_right" = true) (k38 : PySem.W.keepIn K (.ref f38) = true)
    (a39 : PySem.W.nsIn K mainGlobals "law" = some (some (.ref f39))) (l39 : K.lookup f39 = some ⟨oc39, od39, .func (PySem.W.fnOf "law" "law" (defArgs st_law) (defBody st_law) (defScope st_law) .none kV39 dc39 pm39 an39 cd39 ct39), sl39⟩) (c39 : PySem.W.codeIn K cd39 "law" = true) (k39 : PySem.W.keepIn K (.ref f39) = true)
    (z_abs : PySem.W.nsIn K mainGlobals "abs" = some none)
    (z_all : PySem.W.nsIn K mainGlobals "all" = some none)
    (z_bool : PySem.W.nsIn K mainGlobals "bool" = some none)
    (z_int : PySem.W.nsIn K mainGlobals "int" = some none)
    (z_isinstance : PySem.W.nsIn K mainGlobals "isinstance" = some none)
    (z_len : PySem.W.nsIn K mainGlobals "len" = some none)
    (z_max : PySem.W.nsIn K mainGlobals "max" = some none)
    (z_min : PySem.W.nsIn K mainGlobals "min" = some none)
    (z_range : PySem.W.nsIn K mainGlobals "range" = some none)
    (z_sorted : PySem.W.nsIn K mainGlobals "sorted" = some none)
    (z_str : PySem.W.nsIn K mainGlobals "str" = some none)
    (z_tuple : PySem.W.nsIn K mainGlobals "tuple" = some none)
    (y_DOWN : PySem.W.nsIn K mainGlobals "DOWN" = some (some (.str "down" tk_DOWN)))
    (y_HALF_EVEN : PySem.W.nsIn K mainGlobals "HALF_EVEN" = some (some (.str "half_even" tk_HALF_EVEN)))
    (y_HALF_UP : PySem.W.nsIn K mainGlobals "HALF_UP" = some (some (.str "half_up" tk_HALF_UP)))
    (y_MOST_STEPS : PySem.W.nsIn K mainGlobals "MOST_STEPS" = some (some (.int 12 tk_MOST_STEPS)))
    (y_MOST_WIDTH : PySem.W.nsIn K mainGlobals "MOST_WIDTH" = some (some (.int 100 tk_MOST_WIDTH)))
    (y_ODD : PySem.W.nsIn K mainGlobals "ODD" = some (some (.str "odd" tk_ODD)))
    (y_PAIR_cells : PySem.W.nsIn K mainGlobals "PAIR_cells" = some (some (.int 2 tk_PAIR_cells)))
    (y_PAIR_chains : PySem.W.nsIn K mainGlobals "PAIR_chains" = some (some (.int 2 tk_PAIR_chains)))
    (y_RULES : PySem.W.nsIn K mainGlobals "RULES" = some (some (.ref ra_RULES)))
    (x_RULES : K.lookup ra_RULES = some ⟨.type "tuple", rd_RULES, .seq #[.str "down" tk_RULES_0, .str "half_down" tk_RULES_1, .str "half_even" tk_RULES_2, .str "half_up" tk_RULES_3, .str "odd" tk_RULES_4, .str "up" tk_RULES_5] rn_RULES, rs_RULES⟩)
    (y_UP : PySem.W.nsIn K mainGlobals "UP" = some (some (.str "up" tk_UP))) : Tx w K mg :=
  { f_is_int := f0, fd_is_int := _, F_is_int := fun_mk (st := st_is_int) l0 c0 k0, g_is_int := PySem.W.mg_of X G a0, b_is_int := (fun_mk (st := st_is_int) l0 c0 k0).binds (ps := ["value", "least"]) fun _ _ _ _ _ _ us hl => match us, hl with | [_, _], _ => rfl,
    f_common_divisor := f1, fd_common_divisor := _, F_common_divisor := fun_mk (st := st_common_divisor) l1 c1 k1, g_common_divisor := PySem.W.mg_of X G a1, b_common_divisor := (fun_mk (st := st_common_divisor) l1 c1 k1).binds (ps := ["one", "other"]) fun _ _ _ _ _ _ us hl => match us, hl with | [_, _], _ => rfl,
    f_lowest := f2, fd_lowest := _, F_lowest := fun_mk (st := st_lowest) l2 c2 k2, g_lowest := PySem.W.mg_of X G a2, b_lowest := (fun_mk (st := st_lowest) l2 c2 k2).binds (ps := ["n", "d"]) fun _ _ _ _ _ _ us hl => match us, hl with | [_, _], _ => rfl,
    f_is_number := f3, fd_is_number := _, F_is_number := fun_mk (st := st_is_number) l3 c3 k3, g_is_number := PySem.W.mg_of X G a3, b_is_number := (fun_mk (st := st_is_number) l3 c3 k3).binds (ps := ["value"]) fun _ _ _ _ _ _ us hl => match us, hl with | [_], _ => rfl,
    f_is_width := f4, fd_is_width := _, F_is_width := fun_mk (st := st_is_width) l4 c4 k4, g_is_width := PySem.W.mg_of X G a4, b_is_width := (fun_mk (st := st_is_width) l4 c4 k4).binds (ps := ["value"]) fun _ _ _ _ _ _ us hl => match us, hl with | [_], _ => rfl,
    f_check_number := f5, fd_check_number := _, F_check_number := fun_mk (st := st_check_number) l5 c5 k5, g_check_number := PySem.W.mg_of X G a5, b_check_number := (fun_mk (st := st_check_number) l5 c5 k5).binds (ps := ["value"]) fun _ _ _ _ _ _ us hl => match us, hl with | [_], _ => rfl,
    f_check_width := f6, fd_check_width := _, F_check_width := fun_mk (st := st_check_width) l6 c6 k6, g_check_width := PySem.W.mg_of X G a6, b_check_width := (fun_mk (st := st_check_width) l6 c6 k6).binds (ps := ["value"]) fun _ _ _ _ _ _ us hl => match us, hl with | [_], _ => rfl,
    f_scaled := f7, fd_scaled := _, F_scaled := fun_mk (st := st_scaled) l7 c7 k7, g_scaled := PySem.W.mg_of X G a7, b_scaled := (fun_mk (st := st_scaled) l7 c7 k7).binds (ps := ["number", "e"]) fun _ _ _ _ _ _ us hl => match us, hl with | [_, _], _ => rfl,
    f_power_number := f8, fd_power_number := _, F_power_number := fun_mk (st := st_power_number) l8 c8 k8, g_power_number := PySem.W.mg_of X G a8, b_power_number := (fun_mk (st := st_power_number) l8 c8 k8).binds (ps := ["k", "e"]) fun _ _ _ _ _ _ us hl => match us, hl with | [_, _], _ => rfl,
    f_cell_of := f9, fd_cell_of := _, F_cell_of := fun_mk (st := st_cell_of) l9 c9 k9, g_cell_of := PySem.W.mg_of X G a9, b_cell_of := (fun_mk (st := st_cell_of) l9 c9 k9).binds (ps := ["number", "width"]) fun _ _ _ _ _ _ us hl => match us, hl with | [_, _], _ => rfl,
    f_position_of := f10, fd_position_of := _, F_position_of := fun_mk (st := st_position_of) l10 c10 k10, g_position_of := PySem.W.mg_of X G a10, b_position_of := (fun_mk (st := st_position_of) l10 c10 k10).binds (ps := ["number", "width"]) fun _ _ _ _ _ _ us hl => match us, hl with | [_, _], _ => rfl,
    f_is_rule := f11, fd_is_rule := _, F_is_rule := fun_mk (st := st_is_rule) l11 c11 k11, g_is_rule := PySem.W.mg_of X G a11, b_is_rule := (fun_mk (st := st_is_rule) l11 c11 k11).binds (ps := ["value"]) fun _ _ _ _ _ _ us hl => match us, hl with | [_], _ => rfl,
    f_ends_of := f12, fd_ends_of := _, F_ends_of := fun_mk (st := st_ends_of) l12 c12 k12, g_ends_of := PySem.W.mg_of X G a12, b_ends_of := (fun_mk (st := st_ends_of) l12 c12 k12).binds (ps := ["number", "width"]) fun _ _ _ _ _ _ us hl => match us, hl with | [_, _], _ => rfl,
    f_goes_up := f13, fd_goes_up := _, F_goes_up := fun_mk (st := st_goes_up) l13 c13 k13, g_goes_up := PySem.W.mg_of X G a13, b_goes_up := (fun_mk (st := st_goes_up) l13 c13 k13).binds (ps := ["k", "place", "rule"]) fun _ _ _ _ _ _ us hl => match us, hl with | [_, _, _], _ => rfl,
    f_round_once := f14, fd_round_once := _, F_round_once := fun_mk (st := st_round_once) l14 c14 k14, g_round_once := PySem.W.mg_of X G a14, b_round_once := (fun_mk (st := st_round_once) l14 c14 k14).binds (ps := ["number", "width", "rule"]) fun _ _ _ _ _ _ us hl => match us, hl with | [_, _, _], _ => rfl,
    f_neighbours := f15, fd_neighbours := _, F_neighbours := fun_mk (st := st_neighbours) l15 c15 k15, g_neighbours := PySem.W.mg_of X G a15, b_neighbours := (fun_mk (st := st_neighbours) l15 c15 k15).binds (ps := ["number", "width"]) fun _ _ _ _ _ _ us hl => match us, hl with | [_, _], _ => rfl,
    f_is_step := f16, fd_is_step := _, F_is_step := fun_mk (st := st_is_step) l16 c16 k16, g_is_step := PySem.W.mg_of X G a16, b_is_step := (fun_mk (st := st_is_step) l16 c16 k16).binds (ps := ["value"]) fun _ _ _ _ _ _ us hl => match us, hl with | [_], _ => rfl,
    f_is_chain := f17, fd_is_chain := _, F_is_chain := fun_mk (st := st_is_chain) l17 c17 k17, g_is_chain := PySem.W.mg_of X G a17, b_is_chain := (fun_mk (st := st_is_chain) l17 c17 k17).binds (ps := ["value"]) fun _ _ _ _ _ _ us hl => match us, hl with | [_], _ => rfl,
    f_check_chain := f18, fd_check_chain := _, F_check_chain := fun_mk (st := st_check_chain) l18 c18 k18, g_check_chain := PySem.W.mg_of X G a18, b_check_chain := (fun_mk (st := st_check_chain) l18 c18 k18).binds (ps := ["value"]) fun _ _ _ _ _ _ us hl => match us, hl with | [_], _ => rfl,
    f_last_width := f19, fd_last_width := _, F_last_width := fun_mk (st := st_last_width) l19 c19 k19, g_last_width := PySem.W.mg_of X G a19, b_last_width := (fun_mk (st := st_last_width) l19 c19 k19).binds (ps := ["chain"]) fun _ _ _ _ _ _ us hl => match us, hl with | [_], _ => rfl,
    f_stages := f20, fd_stages := _, F_stages := fun_mk (st := st_stages) l20 c20 k20, g_stages := PySem.W.mg_of X G a20, b_stages := (fun_mk (st := st_stages) l20 c20 k20).binds (ps := ["number", "chain"]) fun _ _ _ _ _ _ us hl => match us, hl with | [_, _], _ => rfl,
    f_applied := f21, fd_applied := _, F_applied := fun_mk (st := st_applied) l21 c21 k21, g_applied := PySem.W.mg_of X G a21, b_applied := (fun_mk (st := st_applied) l21 c21 k21).binds (ps := ["number", "chain"]) fun _ _ _ _ _ _ us hl => match us, hl with | [_, _], _ => rfl,
    f__law_source := f22, fd__law_source := _, F__law_source := fun_mk (st := st__law_source) l22 c22 k22, g__law_source := PySem.W.mg_of X G a22, b__law_source := (fun_mk (st := st__law_source) l22 c22 k22).binds (ps := ["_law_script", "_law_k"]) fun _ _ _ _ _ _ us hl => match us, hl with | [_, _], _ => rfl,
    f__law_draw := f23, fd__law_draw := _, F__law_draw := fun_mk (st := st__law_draw) l23 c23 k23, g__law_draw := PySem.W.mg_of X G a23, b__law_draw := (fun_mk (st := st__law_draw) l23 c23 k23).binds (ps := ["_law_source_here", "_law_size"]) fun _ _ _ _ _ _ us hl => match us, hl with | [_, _], _ => rfl,
    f__law_pick := f24, fd__law_pick := _, F__law_pick := fun_mk (st := st__law_pick) l24 c24 k24, g__law_pick := PySem.W.mg_of X G a24, b__law_pick := (fun_mk (st := st__law_pick) l24 c24 k24).binds (ps := ["_law_source_here", "_law_some"]) fun _ _ _ _ _ _ us hl => match us, hl with | [_, _], _ => rfl,
    f__law_divisor := f25, fd__law_divisor := _, F__law_divisor := fun_mk (st := st__law_divisor) l25 c25 k25, g__law_divisor := PySem.W.mg_of X G a25, b__law_divisor := (fun_mk (st := st__law_divisor) l25 c25 k25).binds (ps := ["_law_one", "_law_other"]) fun _ _ _ _ _ _ us hl => match us, hl with | [_, _], _ => rfl,
    f__law_low := f26, fd__law_low := _, F__law_low := fun_mk (st := st__law_low) l26 c26 k26, g__law_low := PySem.W.mg_of X G a26, b__law_low := (fun_mk (st := st__law_low) l26 c26 k26).binds (ps := ["_law_n", "_law_d"]) fun _ _ _ _ _ _ us hl => match us, hl with | [_, _], _ => rfl,
    f__law_scaled := f27, fd__law_scaled := _, F__law_scaled := fun_mk (st := st__law_scaled) l27 c27 k27, g__law_scaled := PySem.W.mg_of X G a27, b__law_scaled := (fun_mk (st := st__law_scaled) l27 c27 k27).binds (ps := ["_law_number_here", "_law_e"]) fun _ _ _ _ _ _ us hl => match us, hl with | [_, _], _ => rfl,
    f__law_number := f28, fd__law_number := _, F__law_number := fun_mk (st := st__law_number) l28 c28 k28, g__law_number := PySem.W.mg_of X G a28, b__law_number := (fun_mk (st := st__law_number) l28 c28 k28).binds (ps := ["_law_source_here", "_law_most"]) fun _ _ _ _ _ _ us hl => match us, hl with | [_, _], _ => rfl,
    f__law_cell_of := f29, fd__law_cell_of := _, F__law_cell_of := fun_mk (st := st__law_cell_of) l29 c29 k29, g__law_cell_of := PySem.W.mg_of X G a29, b__law_cell_of := (fun_mk (st := st__law_cell_of) l29 c29 k29).binds (ps := ["_law_number_here", "_law_width"]) fun _ _ _ _ _ _ us hl => match us, hl with | [_, _], _ => rfl,
    f__law_place := f30, fd__law_place := _, F__law_place := fun_mk (st := st__law_place) l30 c30 k30, g__law_place := PySem.W.mg_of X G a30, b__law_place := (fun_mk (st := st__law_place) l30 c30 k30).binds (ps := ["_law_number_here", "_law_width"]) fun _ _ _ _ _ _ us hl => match us, hl with | [_, _], _ => rfl,
    f__law_end := f31, fd__law_end := _, F__law_end := fun_mk (st := st__law_end) l31 c31 k31, g__law_end := PySem.W.mg_of X G a31, b__law_end := (fun_mk (st := st__law_end) l31 c31 k31).binds (ps := ["_law_k", "_law_e"]) fun _ _ _ _ _ _ us hl => match us, hl with | [_, _], _ => rfl,
    f__law_goes_up := f32, fd__law_goes_up := _, F__law_goes_up := fun_mk (st := st__law_goes_up) l32 c32 k32, g__law_goes_up := PySem.W.mg_of X G a32, b__law_goes_up := (fun_mk (st := st__law_goes_up) l32 c32 k32).binds (ps := ["_law_k", "_law_place_here", "_law_rule_here"]) fun _ _ _ _ _ _ us hl => match us, hl with | [_, _, _], _ => rfl,
    f__law_rounded := f33, fd__law_rounded := _, F__law_rounded := fun_mk (st := st__law_rounded) l33 c33 k33, g__law_rounded := PySem.W.mg_of X G a33, b__law_rounded := (fun_mk (st := st__law_rounded) l33 c33 k33).binds (ps := ["_law_number_here", "_law_width", "_law_rule_here"]) fun _ _ _ _ _ _ us hl => match us, hl with | [_, _, _], _ => rfl,
    f__law_rule := f34, fd__law_rule := _, F__law_rule := fun_mk (st := st__law_rule) l34 c34 k34, g__law_rule := PySem.W.mg_of X G a34, b__law_rule := (fun_mk (st := st__law_rule) l34 c34 k34).binds (ps := ["_law_source_here"]) fun _ _ _ _ _ _ us hl => match us, hl with | [_], _ => rfl,
    f__law_chain := f35, fd__law_chain := _, F__law_chain := fun_mk (st := st__law_chain) l35 c35 k35, g__law_chain := PySem.W.mg_of X G a35, b__law_chain := (fun_mk (st := st__law_chain) l35 c35 k35).binds (ps := ["_law_source_here", "_law_last", "_law_most", "_law_far"]) fun _ _ _ _ _ _ us hl => match us, hl with | [_, _, _, _], _ => rfl,
    f__law_applied := f36, fd__law_applied := _, F__law_applied := fun_mk (st := st__law_applied) l36 c36 k36, g__law_applied := PySem.W.mg_of X G a36, b__law_applied := (fun_mk (st := st__law_applied) l36 c36 k36).binds (ps := ["_law_number_here", "_law_chain_here"]) fun _ _ _ _ _ _ us hl => match us, hl with | [_, _], _ => rfl,
    f__law_some_numbers := f37, fd__law_some_numbers := _, F__law_some_numbers := fun_mk (st := st__law_some_numbers) l37 c37 k37, g__law_some_numbers := PySem.W.mg_of X G a37, b__law_some_numbers := (fun_mk (st := st__law_some_numbers) l37 c37 k37).binds (ps := ["_law_source_here", "_law_least"]) fun _ _ _ _ _ _ us hl => match us, hl with | [_, _], _ => rfl,
    f__law_right := f38, fd__law_right := _, F__law_right := fun_mk (st := st__law_right) l38 c38 k38, g__law_right := PySem.W.mg_of X G a38, b__law_right := (fun_mk (st := st__law_right) l38 c38 k38).binds (ps := ["_law_source_here"]) fun _ _ _ _ _ _ us hl => match us, hl with | [_], _ => rfl,
    f_law := f39, fd_law := _, F_law := fun_mk (st := st_law) l39 c39 k39, g_law := PySem.W.mg_of X G a39, b_law := (fun_mk (st := st_law) l39 c39 k39).binds (ps := ["_law_script"]) fun _ _ _ _ _ _ us hl => match us, hl with | [_], _ => rfl,
    n_abs := PySem.W.mg_none_of X G z_abs,
    n_all := PySem.W.mg_none_of X G z_all,
    n_bool := PySem.W.mg_none_of X G z_bool,
    n_int := PySem.W.mg_none_of X G z_int,
    n_isinstance := PySem.W.mg_none_of X G z_isinstance,
    n_len := PySem.W.mg_none_of X G z_len,
    n_max := PySem.W.mg_none_of X G z_max,
    n_min := PySem.W.mg_none_of X G z_min,
    n_range := PySem.W.mg_none_of X G z_range,
    n_sorted := PySem.W.mg_none_of X G z_sorted,
    n_str := PySem.W.mg_none_of X G z_str,
    n_tuple := PySem.W.mg_none_of X G z_tuple,
    u_DOWN := _, w_DOWN := .str "down", c_DOWN := PySem.W.mg_of X G y_DOWN, v_DOWN := ⟨_, rfl⟩, r_DOWN := fun _ => .str _,
    u_HALF_EVEN := _, w_HALF_EVEN := .str "half_even", c_HALF_EVEN := PySem.W.mg_of X G y_HALF_EVEN, v_HALF_EVEN := ⟨_, rfl⟩, r_HALF_EVEN := fun _ => .str _,
    u_HALF_UP := _, w_HALF_UP := .str "half_up", c_HALF_UP := PySem.W.mg_of X G y_HALF_UP, v_HALF_UP := ⟨_, rfl⟩, r_HALF_UP := fun _ => .str _,
    u_MOST_STEPS := _, w_MOST_STEPS := .int 12, c_MOST_STEPS := PySem.W.mg_of X G y_MOST_STEPS, v_MOST_STEPS := ⟨_, rfl⟩, r_MOST_STEPS := fun _ => .int _,
    u_MOST_WIDTH := _, w_MOST_WIDTH := .int 100, c_MOST_WIDTH := PySem.W.mg_of X G y_MOST_WIDTH, v_MOST_WIDTH := ⟨_, rfl⟩, r_MOST_WIDTH := fun _ => .int _,
    u_ODD := _, w_ODD := .str "odd", c_ODD := PySem.W.mg_of X G y_ODD, v_ODD := ⟨_, rfl⟩, r_ODD := fun _ => .str _,
    u_PAIR_cells := _, w_PAIR_cells := .int 2, c_PAIR_cells := PySem.W.mg_of X G y_PAIR_cells, v_PAIR_cells := ⟨_, rfl⟩, r_PAIR_cells := fun _ => .int _,
    u_PAIR_chains := _, w_PAIR_chains := .int 2, c_PAIR_chains := PySem.W.mg_of X G y_PAIR_chains, v_PAIR_chains := ⟨_, rfl⟩, r_PAIR_chains := fun _ => .int _,
    u_RULES := _, w_RULES := .ref ra_RULES, c_RULES := PySem.W.mg_of X G y_RULES, v_RULES := rfl, r_RULES := fun _ => .tup (.inr ⟨_, _, _, x_RULES, rfl, rfl, by (show 6 ≤ sizeLine; decide), (show Vals [.str "down", .str "half_down", .str "half_even", .str "half_up", .str "odd", .str "up"] _ from .cons ⟨_, rfl⟩ (.cons ⟨_, rfl⟩ (.cons ⟨_, rfl⟩ (.cons ⟨_, rfl⟩ (.cons ⟨_, rfl⟩ (.cons ⟨_, rfl⟩ (.nil)))))))⟩) (.cons (.str _) (.cons (.str _) (.cons (.str _) (.cons (.str _) (.cons (.str _) (.cons (.str _) (.nil))))))),
    u_UP := _, w_UP := .str "up", c_UP := PySem.W.mg_of X G y_UP, v_UP := ⟨_, rfl⟩, r_UP := fun _ => .str _ }
theorem all_mk {l : PySem.W.OpenLaw} {w : World} {K : Fg} {h : Heap} {mg : Str → Option Value} {fa : Addr} (X : K.In h) (G : h.Ns mainGlobals mg) (hfa : mg "law" = some (.ref fa)) {f0 : Addr} {od0 an0 : Option Addr} {sl0 : Array (Option Value)} {oc0 kV0 dc0 pm0 cd0 ct0 : Value} {f1 : Addr} {od1 an1 : Option Addr} {sl1 : Array (Option Value)} {oc1 kV1 dc1 pm1 cd1 ct1 : Value} {f2 : Addr} {od2 an2 : Option Addr} {sl2 : Array (Option Value)} {oc2 kV2 dc2 pm2 cd2 ct2 : Value} {f3 : Addr} {od3 an3 : Option Addr} {sl3 : Array (Option Value)} {oc3 kV3 dc3 pm3 cd3 ct3 : Value} {f4 : Addr} {od4 an4 : Option Addr} {sl4 : Array (Option Value)} {oc4 kV4 dc4 pm4 cd4 ct4 : Value} {f5 : Addr} {od5 an5 : Option Addr} {sl5 : Array (Option Value)} {oc5 kV5 dc5 pm5 cd5 ct5 : Value} {f6 : Addr} {od6 an6 : Option Addr} {sl6 : Array (Option Value)} {oc6 kV6 dc6 pm6 cd6 ct6 : Value} {f7 : Addr} {od7 an7 : Option Addr} {sl7 : Array (Option Value)} {oc7 kV7 dc7 pm7 cd7 ct7 : Value} {f8 : Addr} {od8 an8 : Option Addr} {sl8 : Array (Option Value)} {oc8 kV8 dc8 pm8 cd8 ct8 : Value} {f9 : Addr} {od9 an9 : Option Addr} {sl9 : Array (Option Value)} {oc9 kV9 dc9 pm9 cd9 ct9 : Value} {f10 : Addr} {od10 an10 : Option Addr} {sl10 : Array (Option Value)} {oc10 kV10 dc10 pm10 cd10 ct10 : Value} {f11 : Addr} {od11 an11 : Option Addr} {sl11 : Array (Option Value)} {oc11 kV11 dc11 pm11 cd11 ct11 : Value} {f12 : Addr} {od12 an12 : Option Addr} {sl12 : Array (Option Value)} {oc12 kV12 dc12 pm12 cd12 ct12 : Value} {f13 : Addr} {od13 an13 : Option Addr} {sl13 : Array (Option Value)} {oc13 kV13 dc13 pm13 cd13 ct13 : Value} {f14 : Addr} {od14 an14 : Option Addr} {sl14 : Array (Option Value)} {oc14 kV14 dc14 pm14 cd14 ct14 : Value} {f15 : Addr} {od15 an15 : Option Addr} {sl15 : Array (Option Value)} {oc15 kV15 dc15 pm15 cd15 ct15 : Value} {f16 : Addr} {od16 an16 : Option Addr} {sl16 : Array (Option Value)} {oc16 kV16 dc16 pm16 cd16 ct16 : Value} {f17 : Addr} {od17 an17 : Option Addr} {sl17 : Array (Option Value)} {oc17 kV17 dc17 pm17 cd17 ct17 : Value} {f18 : Addr} {od18 an18 : Option Addr} {sl18 : Array (Option Value)} {oc18 kV18 dc18 pm18 cd18 ct18 : Value} {f19 : Addr} {od19 an19 : Option Addr} {sl19 : Array (Option Value)} {oc19 kV19 dc19 pm19 cd19 ct19 : Value} {f20 : Addr} {od20 an20 : Option Addr} {sl20 : Array (Option Value)} {oc20 kV20 dc20 pm20 cd20 ct20 : Value} {f21 : Addr} {od21 an21 : Option Addr} {sl21 : Array (Option Value)} {oc21 kV21 dc21 pm21 cd21 ct21 : Value} {f22 : Addr} {od22 an22 : Option Addr} {sl22 : Array (Option Value)} {oc22 kV22 dc22 pm22 cd22 ct22 : Value} {f23 : Addr} {od23 an23 : Option Addr} {sl23 : Array (Option Value)} {oc23 kV23 dc23 pm23 cd23 ct23 : Value} {f24 : Addr} {od24 an24 : Option Addr} {sl24 : Array (Option Value)} {oc24 kV24 dc24 pm24 cd24 ct24 : Value} {f25 : Addr} {od25 an25 : Option Addr} {sl25 : Array (Option Value)} {oc25 kV25 dc25 pm25 cd25 ct25 : Value} {f26 : Addr} {od26 an26 : Option Addr} {sl26 : Array (Option Value)} {oc26 kV26 dc26 pm26 cd26 ct26 : Value} {f27 : Addr} {od27 an27 : Option Addr} {sl27 : Array (Option Value)} {oc27 kV27 dc27 pm27 cd27 ct27 : Value} {f28 : Addr} {od28 an28 : Option Addr} {sl28 : Array (Option Value)} {oc28 kV28 dc28 pm28 cd28 ct28 : Value} {f29 : Addr} {od29 an29 : Option Addr} {sl29 : Array (Option Value)} {oc29 kV29 dc29 pm29 cd29 ct29 : Value} {f30 : Addr} {od30 an30 : Option Addr} {sl30 : Array (Option Value)} {oc30 kV30 dc30 pm30 cd30 ct30 : Value} {f31 : Addr} {od31 an31 : Option Addr} {sl31 : Array (Option Value)} {oc31 kV31 dc31 pm31 cd31 ct31 : Value} {f32 : Addr} {od32 an32 : Option Addr} {sl32 : Array (Option Value)} {oc32 kV32 dc32 pm32 cd32 ct32 : Value} {f33 : Addr} {od33 an33 : Option Addr} {sl33 : Array (Option Value)} {oc33 kV33 dc33 pm33 cd33 ct33 : Value} {f34 : Addr} {od34 an34 : Option Addr} {sl34 : Array (Option Value)} {oc34 kV34 dc34 pm34 cd34 ct34 : Value} {f35 : Addr} {od35 an35 : Option Addr} {sl35 : Array (Option Value)} {oc35 kV35 dc35 pm35 cd35 ct35 : Value} {f36 : Addr} {od36 an36 : Option Addr} {sl36 : Array (Option Value)} {oc36 kV36 dc36 pm36 cd36 ct36 : Value} {f37 : Addr} {od37 an37 : Option Addr} {sl37 : Array (Option Value)} {oc37 kV37 dc37 pm37 cd37 ct37 : Value} {f38 : Addr} {od38 an38 : Option Addr} {sl38 : Array (Option Value)} {oc38 kV38 dc38 pm38 cd38 ct38 : Value} {f39 : Addr} {od39 an39 : Option Addr} {sl39 : Array (Option Value)} {oc39 kV39 dc39 pm39 cd39 ct39 : Value} {tk_DOWN : Tok} {tk_HALF_EVEN : Tok} {tk_HALF_UP : Tok} {tk_MOST_STEPS : Tok} {tk_MOST_WIDTH : Tok} {tk_ODD : Tok} {tk_PAIR_cells : Tok} {tk_PAIR_chains : Tok} {tk_RULES_0 : Tok} {tk_RULES_1 : Tok} {tk_RULES_2 : Tok} {tk_RULES_3 : Tok} {tk_RULES_4 : Tok} {tk_RULES_5 : Tok} {ra_RULES : Addr} {rd_RULES : Option Addr} {rn_RULES : Nat} {rs_RULES : Array (Option Value)} {tk_UP : Tok}
    (a0 : PySem.W.nsIn K mainGlobals "is_int" = some (some (.ref f0))) (l0 : K.lookup f0 = some ⟨oc0, od0, .func (PySem.W.fnOf "is_int" "is_int" (defArgs st_is_int) (defBody st_is_int) (defScope st_is_int) .none kV0 dc0 pm0 an0 cd0 ct0), sl0⟩) (c0 : PySem.W.codeIn K cd0 "is_int" = true) (k0 : PySem.W.keepIn K (.ref f0) = true)
    (a1 : PySem.W.nsIn K mainGlobals "common_divisor" = some (some (.ref f1))) (l1 : K.lookup f1 = some ⟨oc1, od1, .func (PySem.W.fnOf "common_divisor" "common_divisor" (defArgs st_common_divisor) (defBody st_common_divisor) (defScope st_common_divisor) .none kV1 dc1 pm1 an1 cd1 ct1), sl1⟩) (c1 : PySem.W.codeIn K cd1 "common_divisor" = true) (k1 : PySem.W.keepIn K (.ref f1) = true)
    (a2 : PySem.W.nsIn K mainGlobals "lowest" = some (some (.ref f2))) (l2 : K.lookup f2 = some ⟨oc2, od2, .func (PySem.W.fnOf "lowest" "lowest" (defArgs st_lowest) (defBody st_lowest) (defScope st_lowest) .none kV2 dc2 pm2 an2 cd2 ct2), sl2⟩) (c2 : PySem.W.codeIn K cd2 "lowest" = true) (k2 : PySem.W.keepIn K (.ref f2) = true)
    (a3 : PySem.W.nsIn K mainGlobals "is_number" = some (some (.ref f3))) (l3 : K.lookup f3 = some ⟨oc3, od3, .func (PySem.W.fnOf "is_number" "is_number" (defArgs st_is_number) (defBody st_is_number) (defScope st_is_number) .none kV3 dc3 pm3 an3 cd3 ct3), sl3⟩) (c3 : PySem.W.codeIn K cd3 "is_number" = true) (k3 : PySem.W.keepIn K (.ref f3) = true)
    (a4 : PySem.W.nsIn K mainGlobals "is_width" = some (some (.ref f4))) (l4 : K.lookup f4 = some ⟨oc4, od4, .func (PySem.W.fnOf "is_width" "is_width" (defArgs st_is_width) (defBody st_is_width) (defScope st_is_width) .none kV4 dc4 pm4 an4 cd4 ct4), sl4⟩) (c4 : PySem.W.codeIn K cd4 "is_width" = true) (k4 : PySem.W.keepIn K (.ref f4) = true)
    (a5 : PySem.W.nsIn K mainGlobals "check_number" = some (some (.ref f5))) (l5 : K.lookup f5 = some ⟨oc5, od5, .func (PySem.W.fnOf "check_number" "check_number" (defArgs st_check_number) (defBody st_check_number) (defScope st_check_number) .none kV5 dc5 pm5 an5 cd5 ct5), sl5⟩) (c5 : PySem.W.codeIn K cd5 "check_number" = true) (k5 : PySem.W.keepIn K (.ref f5) = true)
    (a6 : PySem.W.nsIn K mainGlobals "check_width" = some (some (.ref f6))) (l6 : K.lookup f6 = some ⟨oc6, od6, .func (PySem.W.fnOf "check_width" "check_width" (defArgs st_check_width) (defBody st_check_width) (defScope st_check_width) .none kV6 dc6 pm6 an6 cd6 ct6), sl6⟩) (c6 : PySem.W.codeIn K cd6 "check_width" = true) (k6 : PySem.W.keepIn K (.ref f6) = true)
    (a7 : PySem.W.nsIn K mainGlobals "scaled" = some (some (.ref f7))) (l7 : K.lookup f7 = some ⟨oc7, od7, .func (PySem.W.fnOf "scaled" "scaled" (defArgs st_scaled) (defBody st_scaled) (defScope st_scaled) .none kV7 dc7 pm7 an7 cd7 ct7), sl7⟩) (c7 : PySem.W.codeIn K cd7 "scaled" = true) (k7 : PySem.W.keepIn K (.ref f7) = true)
    (a8 : PySem.W.nsIn K mainGlobals "power_number" = some (some (.ref f8))) (l8 : K.lookup f8 = some ⟨oc8, od8, .func (PySem.W.fnOf "power_number" "power_number" (defArgs st_power_number) (defBody st_power_number) (defScope st_power_number) .none kV8 dc8 pm8 an8 cd8 ct8), sl8⟩) (c8 : PySem.W.codeIn K cd8 "power_number" = true) (k8 : PySem.W.keepIn K (.ref f8) = true)
    (a9 : PySem.W.nsIn K mainGlobals "cell_of" = some (some (.ref f9))) (l9 : K.lookup f9 = some ⟨oc9, od9, .func (PySem.W.fnOf "cell_of" "cell_of" (defArgs st_cell_of) (defBody st_cell_of) (defScope st_cell_of) .none kV9 dc9 pm9 an9 cd9 ct9), sl9⟩) (c9 : PySem.W.codeIn K cd9 "cell_of" = true) (k9 : PySem.W.keepIn K (.ref f9) = true)
    (a10 : PySem.W.nsIn K mainGlobals "position_of" = some (some (.ref f10))) (l10 : K.lookup f10 = some ⟨oc10, od10, .func (PySem.W.fnOf "position_of" "position_of" (defArgs st_position_of) (defBody st_position_of) (defScope st_position_of) .none kV10 dc10 pm10 an10 cd10 ct10), sl10⟩) (c10 : PySem.W.codeIn K cd10 "position_of" = true) (k10 : PySem.W.keepIn K (.ref f10) = true)
    (a11 : PySem.W.nsIn K mainGlobals "is_rule" = some (some (.ref f11))) (l11 : K.lookup f11 = some ⟨oc11, od11, .func (PySem.W.fnOf "is_rule" "is_rule" (defArgs st_is_rule) (defBody st_is_rule) (defScope st_is_rule) .none kV11 dc11 pm11 an11 cd11 ct11), sl11⟩) (c11 : PySem.W.codeIn K cd11 "is_rule" = true) (k11 : PySem.W.keepIn K (.ref f11) = true)
    (a12 : PySem.W.nsIn K mainGlobals "ends_of" = some (some (.ref f12))) (l12 : K.lookup f12 = some ⟨oc12, od12, .func (PySem.W.fnOf "ends_of" "ends_of" (defArgs st_ends_of) (defBody st_ends_of) (defScope st_ends_of) .none kV12 dc12 pm12 an12 cd12 ct12), sl12⟩) (c12 : PySem.W.codeIn K cd12 "ends_of" = true) (k12 : PySem.W.keepIn K (.ref f12) = true)
    (a13 : PySem.W.nsIn K mainGlobals "goes_up" = some (some (.ref f13))) (l13 : K.lookup f13 = some ⟨oc13, od13, .func (PySem.W.fnOf "goes_up" "goes_up" (defArgs st_goes_up) (defBody st_goes_up) (defScope st_goes_up) .none kV13 dc13 pm13 an13 cd13 ct13), sl13⟩) (c13 : PySem.W.codeIn K cd13 "goes_up" = true) (k13 : PySem.W.keepIn K (.ref f13) = true)
    (a14 : PySem.W.nsIn K mainGlobals "round_once" = some (some (.ref f14))) (l14 : K.lookup f14 = some ⟨oc14, od14, .func (PySem.W.fnOf "round_once" "round_once" (defArgs st_round_once) (defBody st_round_once) (defScope st_round_once) .none kV14 dc14 pm14 an14 cd14 ct14), sl14⟩) (c14 : PySem.W.codeIn K cd14 "round_once" = true) (k14 : PySem.W.keepIn K (.ref f14) = true)
    (a15 : PySem.W.nsIn K mainGlobals "neighbours" = some (some (.ref f15))) (l15 : K.lookup f15 = some ⟨oc15, od15, .func (PySem.W.fnOf "neighbours" "neighbours" (defArgs st_neighbours) (defBody st_neighbours) (defScope st_neighbours) .none kV15 dc15 pm15 an15 cd15 ct15), sl15⟩) (c15 : PySem.W.codeIn K cd15 "neighbours" = true) (k15 : PySem.W.keepIn K (.ref f15) = true)
    (a16 : PySem.W.nsIn K mainGlobals "is_step" = some (some (.ref f16))) (l16 : K.lookup f16 = some ⟨oc16, od16, .func (PySem.W.fnOf "is_step" "is_step" (defArgs st_is_step) (defBody st_is_step) (defScope st_is_step) .none kV16 dc16 pm16 an16 cd16 ct16), sl16⟩) (c16 : PySem.W.codeIn K cd16 "is_step" = true) (k16 : PySem.W.keepIn K (.ref f16) = true)
    (a17 : PySem.W.nsIn K mainGlobals "is_chain" = some (some (.ref f17))) (l17 : K.lookup f17 = some ⟨oc17, od17, .func (PySem.W.fnOf "is_chain" "is_chain" (defArgs st_is_chain) (defBody st_is_chain) (defScope st_is_chain) .none kV17 dc17 pm17 an17 cd17 ct17), sl17⟩) (c17 : PySem.W.codeIn K cd17 "is_chain" = true) (k17 : PySem.W.keepIn K (.ref f17) = true)
    (a18 : PySem.W.nsIn K mainGlobals "check_chain" = some (some (.ref f18))) (l18 : K.lookup f18 = some ⟨oc18, od18, .func (PySem.W.fnOf "check_chain" "check_chain" (defArgs st_check_chain) (defBody st_check_chain) (defScope st_check_chain) .none kV18 dc18 pm18 an18 cd18 ct18), sl18⟩) (c18 : PySem.W.codeIn K cd18 "check_chain" = true) (k18 : PySem.W.keepIn K (.ref f18) = true)
    (a19 : PySem.W.nsIn K mainGlobals "last_width" = some (some (.ref f19))) (l19 : K.lookup f19 = some ⟨oc19, od19, .func (PySem.W.fnOf "last_width" "last_width" (defArgs st_last_width) (defBody st_last_width) (defScope st_last_width) .none kV19 dc19 pm19 an19 cd19 ct19), sl19⟩) (c19 : PySem.W.codeIn K cd19 "last_width" = true) (k19 : PySem.W.keepIn K (.ref f19) = true)
    (a20 : PySem.W.nsIn K mainGlobals "stages" = some (some (.ref f20))) (l20 : K.lookup f20 = some ⟨oc20, od20, .func (PySem.W.fnOf "stages" "stages" (defArgs st_stages) (defBody st_stages) (defScope st_stages) .none kV20 dc20 pm20 an20 cd20 ct20), sl20⟩) (c20 : PySem.W.codeIn K cd20 "stages" = true) (k20 : PySem.W.keepIn K (.ref f20) = true)
    (a21 : PySem.W.nsIn K mainGlobals "applied" = some (some (.ref f21))) (l21 : K.lookup f21 = some ⟨oc21, od21, .func (PySem.W.fnOf "applied" "applied" (defArgs st_applied) (defBody st_applied) (defScope st_applied) .none kV21 dc21 pm21 an21 cd21 ct21), sl21⟩) (c21 : PySem.W.codeIn K cd21 "applied" = true) (k21 : PySem.W.keepIn K (.ref f21) = true)
    (a22 : PySem.W.nsIn K mainGlobals "_law_source" = some (some (.ref f22))) (l22 : K.lookup f22 = some ⟨oc22, od22, .func (PySem.W.fnOf "_law_source" "_law_source" (defArgs st__law_source) (defBody st__law_source) (defScope st__law_source) .none kV22 dc22 pm22 an22 cd22 ct22), sl22⟩) (c22 : PySem.W.codeIn K cd22 "_law_source" = true) (k22 : PySem.W.keepIn K (.ref f22) = true)
    (a23 : PySem.W.nsIn K mainGlobals "_law_draw" = some (some (.ref f23))) (l23 : K.lookup f23 = some ⟨oc23, od23, .func (PySem.W.fnOf "_law_draw" "_law_draw" (defArgs st__law_draw) (defBody st__law_draw) (defScope st__law_draw) .none kV23 dc23 pm23 an23 cd23 ct23), sl23⟩) (c23 : PySem.W.codeIn K cd23 "_law_draw" = true) (k23 : PySem.W.keepIn K (.ref f23) = true)
    (a24 : PySem.W.nsIn K mainGlobals "_law_pick" = some (some (.ref f24))) (l24 : K.lookup f24 = some ⟨oc24, od24, .func (PySem.W.fnOf "_law_pick" "_law_pick" (defArgs st__law_pick) (defBody st__law_pick) (defScope st__law_pick) .none kV24 dc24 pm24 an24 cd24 ct24), sl24⟩) (c24 : PySem.W.codeIn K cd24 "_law_pick" = true) (k24 : PySem.W.keepIn K (.ref f24) = true)
    (a25 : PySem.W.nsIn K mainGlobals "_law_divisor" = some (some (.ref f25))) (l25 : K.lookup f25 = some ⟨oc25, od25, .func (PySem.W.fnOf "_law_divisor" "_law_divisor" (defArgs st__law_divisor) (defBody st__law_divisor) (defScope st__law_divisor) .none kV25 dc25 pm25 an25 cd25 ct25), sl25⟩) (c25 : PySem.W.codeIn K cd25 "_law_divisor" = true) (k25 : PySem.W.keepIn K (.ref f25) = true)
    (a26 : PySem.W.nsIn K mainGlobals "_law_low" = some (some (.ref f26))) (l26 : K.lookup f26 = some ⟨oc26, od26, .func (PySem.W.fnOf "_law_low" "_law_low" (defArgs st__law_low) (defBody st__law_low) (defScope st__law_low) .none kV26 dc26 pm26 an26 cd26 ct26), sl26⟩) (c26 : PySem.W.codeIn K cd26 "_law_low" = true) (k26 : PySem.W.keepIn K (.ref f26) = true)
    (a27 : PySem.W.nsIn K mainGlobals "_law_scaled" = some (some (.ref f27))) (l27 : K.lookup f27 = some ⟨oc27, od27, .func (PySem.W.fnOf "_law_scaled" "_law_scaled" (defArgs st__law_scaled) (defBody st__law_scaled) (defScope st__law_scaled) .none kV27 dc27 pm27 an27 cd27 ct27), sl27⟩) (c27 : PySem.W.codeIn K cd27 "_law_scaled" = true) (k27 : PySem.W.keepIn K (.ref f27) = true)
    (a28 : PySem.W.nsIn K mainGlobals "_law_number" = some (some (.ref f28))) (l28 : K.lookup f28 = some ⟨oc28, od28, .func (PySem.W.fnOf "_law_number" "_law_number" (defArgs st__law_number) (defBody st__law_number) (defScope st__law_number) .none kV28 dc28 pm28 an28 cd28 ct28), sl28⟩) (c28 : PySem.W.codeIn K cd28 "_law_number" = true) (k28 : PySem.W.keepIn K (.ref f28) = true)
    (a29 : PySem.W.nsIn K mainGlobals "_law_cell_of" = some (some (.ref f29))) (l29 : K.lookup f29 = some ⟨oc29, od29, .func (PySem.W.fnOf "_law_cell_of" "_law_cell_of" (defArgs st__law_cell_of) (defBody st__law_cell_of) (defScope st__law_cell_of) .none kV29 dc29 pm29 an29 cd29 ct29), sl29⟩) (c29 : PySem.W.codeIn K cd29 "_law_cell_of" = true) (k29 : PySem.W.keepIn K (.ref f29) = true)
    (a30 : PySem.W.nsIn K mainGlobals "_law_place" = some (some (.ref f30))) (l30 : K.lookup f30 = some ⟨oc30, od30, .func (PySem.W.fnOf "_law_place" "_law_place" (defArgs st__law_place) (defBody st__law_place) (defScope st__law_place) .none kV30 dc30 pm30 an30 cd30 ct30), sl30⟩) (c30 : PySem.W.codeIn K cd30 "_law_place" = true) (k30 : PySem.W.keepIn K (.ref f30) = true)
    (a31 : PySem.W.nsIn K mainGlobals "_law_end" = some (some (.ref f31))) (l31 : K.lookup f31 = some ⟨oc31, od31, .func (PySem.W.fnOf "_law_end" "_law_end" (defArgs st__law_end) (defBody st__law_end) (defScope st__law_end) .none kV31 dc31 pm31 an31 cd31 ct31), sl31⟩) (c31 : PySem.W.codeIn K cd31 "_law_end" = true) (k31 : PySem.W.keepIn K (.ref f31) = true)
    (a32 : PySem.W.nsIn K mainGlobals "_law_goes_up" = some (some (.ref f32))) (l32 : K.lookup f32 = some ⟨oc32, od32, .func (PySem.W.fnOf "_law_goes_up" "_law_goes_up" (defArgs st__law_goes_up) (defBody st__law_goes_up) (defScope st__law_goes_up) .none kV32 dc32 pm32 an32 cd32 ct32), sl32⟩) (c32 : PySem.W.codeIn K cd32 "_law_goes_up" = true) (k32 : PySem.W.keepIn K (.ref f32) = true)
    (a33 : PySem.W.nsIn K mainGlobals "_law_rounded" = some (some (.ref f33))) (l33 : K.lookup f33 = some ⟨oc33, od33, .func (PySem.W.fnOf "_law_rounded" "_law_rounded" (defArgs st__law_rounded) (defBody st__law_rounded) (defScope st__law_rounded) .none kV33 dc33 pm33 an33 cd33 ct33), sl33⟩) (c33 : PySem.W.codeIn K cd33 "_law_rounded" = true) (k33 : PySem.W.keepIn K (.ref f33) = true)
    (a34 : PySem.W.nsIn K mainGlobals "_law_rule" = some (some (.ref f34))) (l34 : K.lookup f34 = some ⟨oc34, od34, .func (PySem.W.fnOf "_law_rule" "_law_rule" (defArgs st__law_rule) (defBody st__law_rule) (defScope st__law_rule) .none kV34 dc34 pm34 an34 cd34 ct34), sl34⟩) (c34 : PySem.W.codeIn K cd34 "_law_rule" = true) (k34 : PySem.W.keepIn K (.ref f34) = true)
    (a35 : PySem.W.nsIn K mainGlobals "_law_chain" = some (some (.ref f35))) (l35 : K.lookup f35 = some ⟨oc35, od35, .func (PySem.W.fnOf "_law_chain" "_law_chain" (defArgs st__law_chain) (defBody st__law_chain) (defScope st__law_chain) .none kV35 dc35 pm35 an35 cd35 ct35), sl35⟩) (c35 : PySem.W.codeIn K cd35 "_law_chain" = true) (k35 : PySem.W.keepIn K (.ref f35) = true)
    (a36 : PySem.W.nsIn K mainGlobals "_law_applied" = some (some (.ref f36))) (l36 : K.lookup f36 = some ⟨oc36, od36, .func (PySem.W.fnOf "_law_applied" "_law_applied" (defArgs st__law_applied) (defBody st__law_applied) (defScope st__law_applied) .none kV36 dc36 pm36 an36 cd36 ct36), sl36⟩) (c36 : PySem.W.codeIn K cd36 "_law_applied" = true) (k36 : PySem.W.keepIn K (.ref f36) = true)
    (a37 : PySem.W.nsIn K mainGlobals "_law_some_numbers" = some (some (.ref f37))) (l37 : K.lookup f37 = some ⟨oc37, od37, .func (PySem.W.fnOf "_law_some_numbers" "_law_some_numbers" (defArgs st__law_some_numbers) (defBody st__law_some_numbers) (defScope st__law_some_numbers) .none kV37 dc37 pm37 an37 cd37 ct37), sl37⟩) (c37 : PySem.W.codeIn K cd37 "_law_some_numbers" = true) (k37 : PySem.W.keepIn K (.ref f37) = true)
    (a38 : PySem.W.nsIn K mainGlobals "_law_right" = some (some (.ref f38))) (l38 : K.lookup f38 = some ⟨oc38, od38, .func (PySem.W.fnOf "_law_right" "_law_right" (defArgs st__law_right) (defBody st__law_right) (defScope st__law_right) .none kV38 dc38 pm38 an38 cd38 ct38), sl38⟩) (c38 : PySem.W.codeIn K cd38 "_law_right" = true) (k38 : PySem.W.keepIn K (.ref f38) = true)
    (a39 : PySem.W.nsIn K mainGlobals "law" = some (some (.ref f39))) (l39 : K.lookup f39 = some ⟨oc39, od39, .func (PySem.W.fnOf "law" "law" (defArgs st_law) (defBody st_law) (defScope st_law) .none kV39 dc39 pm39 an39 cd39 ct39), sl39⟩) (c39 : PySem.W.codeIn K cd39 "law" = true) (k39 : PySem.W.keepIn K (.ref f39) = true)
    (z_abs : PySem.W.nsIn K mainGlobals "abs" = some none)
    (z_all : PySem.W.nsIn K mainGlobals "all" = some none)
    (z_bool : PySem.W.nsIn K mainGlobals "bool" = some none)
    (z_int : PySem.W.nsIn K mainGlobals "int" = some none)
    (z_isinstance : PySem.W.nsIn K mainGlobals "isinstance" = some none)
    (z_len : PySem.W.nsIn K mainGlobals "len" = some none)
    (z_max : PySem.W.nsIn K mainGlobals "max" = some none)
    (z_min : PySem.W.nsIn K mainGlobals "min" = some none)
    (z_range : PySem.W.nsIn K mainGlobals "range" = some none)
    (z_sorted : PySem.W.nsIn K mainGlobals "sorted" = some none)
    (z_str : PySem.W.nsIn K mainGlobals "str" = some none)
    (z_tuple : PySem.W.nsIn K mainGlobals "tuple" = some none)
    (y_DOWN : PySem.W.nsIn K mainGlobals "DOWN" = some (some (.str "down" tk_DOWN)))
    (y_HALF_EVEN : PySem.W.nsIn K mainGlobals "HALF_EVEN" = some (some (.str "half_even" tk_HALF_EVEN)))
    (y_HALF_UP : PySem.W.nsIn K mainGlobals "HALF_UP" = some (some (.str "half_up" tk_HALF_UP)))
    (y_MOST_STEPS : PySem.W.nsIn K mainGlobals "MOST_STEPS" = some (some (.int 12 tk_MOST_STEPS)))
    (y_MOST_WIDTH : PySem.W.nsIn K mainGlobals "MOST_WIDTH" = some (some (.int 100 tk_MOST_WIDTH)))
    (y_ODD : PySem.W.nsIn K mainGlobals "ODD" = some (some (.str "odd" tk_ODD)))
    (y_PAIR_cells : PySem.W.nsIn K mainGlobals "PAIR_cells" = some (some (.int 2 tk_PAIR_cells)))
    (y_PAIR_chains : PySem.W.nsIn K mainGlobals "PAIR_chains" = some (some (.int 2 tk_PAIR_chains)))
    (y_RULES : PySem.W.nsIn K mainGlobals "RULES" = some (some (.ref ra_RULES)))
    (x_RULES : K.lookup ra_RULES = some ⟨.type "tuple", rd_RULES, .seq #[.str "down" tk_RULES_0, .str "half_down" tk_RULES_1, .str "half_even" tk_RULES_2, .str "half_up" tk_RULES_3, .str "odd" tk_RULES_4, .str "up" tk_RULES_5] rn_RULES, rs_RULES⟩)
    (y_UP : PySem.W.nsIn K mainGlobals "UP" = some (some (.str "up" tk_UP))) :
    ∃ fd : FuncData, (∀ (s : Shared) (v : Value), BindsTo s fd ⟨[v], []⟩ [("_law_script", v)]) ∧ ∀ base : Heap, K.In base → base.Ns mainGlobals mg → Fn l.prog w K mg base CX0 9 fa fd ["_law_script"] (lift K 1 fs_law) := by
  have e := hfa.symm.trans (PySem.W.mg_of X G a39)
  cases e
  exact ⟨_, fun s v => .of_eq rfl, fun base _ _ => ok_law (mkTx X G a0 l0 c0 k0 a1 l1 c1 k1 a2 l2 c2 k2 a3 l3 c3 k3 a4 l4 c4 k4 a5 l5 c5 k5 a6 l6 c6 k6 a7 l7 c7 k7 a8 l8 c8 k8 a9 l9 c9 k9 a10 l10 c10 k10 a11 l11 c11 k11 a12 l12 c12 k12 a13 l13 c13 k13 a14 l14 c14 k14 a15 l15 c15 k15 a16 l16 c16 k16 a17 l17 c17 k17 a18 l18 c18 k18 a19 l19 c19 k19 a20 l20 c20 k20 a21 l21 c21 k21 a22 l22 c22 k22 a23 l23 c23 k23 a24 l24 c24 k24 a25 l25 c25 k25 a26 l26 c26 k26 a27 l27 c27 k27 a28 l28 c28 k28 a29 l29 c29 k29 a30 l30 c30 k30 a31 l31 c31 k31 a32 l32 c32 k32 a33 l33 c33 k33 a34 l34 c34 k34 a35 l35 c35 k35 a36 l36 c36 k36 a37 l37 c37 k37 a38 l38 c38 k38 a39 l39 c39 k39 z_abs z_all z_bool z_int z_isinstance z_len z_max z_min z_range z_sorted z_str z_tuple y_DOWN y_HALF_EVEN y_HALF_UP y_MOST_STEPS y_MOST_WIDTH y_ODD y_PAIR_cells y_PAIR_chains y_RULES x_RULES y_UP)⟩
end LAW
open PySem PySem.W PyProof.Rows
set_option maxHeartbeats 0 in
theorem PySem.Challenge.cw_stagedrounding_k62_whole_chains_by_defin_holds : PySem.Challenge.rw_stagedrounding_k62_whole_chains_by_defin.Holds := by
  w_on; o_law; k_head; (case hw => w_witness2)
  k_fill
  refine Z.end_of (l := PySem.Challenge.rw_stagedrounding_k62_whole_chains_by_defin) (n := 63) (k := 9) (x := "_law_script") (fs := LAW.fs_law) rfl (by decide) rfl ⟨rfl, by decide, by decide⟩ (fun w h Y => PySem.W.kIn_of Y) ?Fu LAW.law_true
  case Fu =>
    intro w mg fa h KX G hmg
    refine' LAW.all_mk KX G hmg ?a0 ?l0 ?c0 ?k0 ?a1 ?l1 ?c1 ?k1 ?a2 ?l2 ?c2 ?k2 ?a3 ?l3 ?c3 ?k3 ?a4 ?l4 ?c4 ?k4 ?a5 ?l5 ?c5 ?k5 ?a6 ?l6 ?c6 ?k6 ?a7 ?l7 ?c7 ?k7 ?a8 ?l8 ?c8 ?k8 ?a9 ?l9 ?c9 ?k9 ?a10 ?l10 ?c10 ?k10 ?a11 ?l11 ?c11 ?k11 ?a12 ?l12 ?c12 ?k12 ?a13 ?l13 ?c13 ?k13 ?a14 ?l14 ?c14 ?k14 ?a15 ?l15 ?c15 ?k15 ?a16 ?l16 ?c16 ?k16 ?a17 ?l17 ?c17 ?k17 ?a18 ?l18 ?c18 ?k18 ?a19 ?l19 ?c19 ?k19 ?a20 ?l20 ?c20 ?k20 ?a21 ?l21 ?c21 ?k21 ?a22 ?l22 ?c22 ?k22 ?a23 ?l23 ?c23 ?k23 ?a24 ?l24 ?c24 ?k24 ?a25 ?l25 ?c25 ?k25 ?a26 ?l26 ?c26 ?k26 ?a27 ?l27 ?c27 ?k27 ?a28 ?l28 ?c28 ?k28 ?a29 ?l29 ?c29 ?k29 ?a30 ?l30 ?c30 ?k30 ?a31 ?l31 ?c31 ?k31 ?a32 ?l32 ?c32 ?k32 ?a33 ?l33 ?c33 ?k33 ?a34 ?l34 ?c34 ?k34 ?a35 ?l35 ?c35 ?k35 ?a36 ?l36 ?c36 ?k36 ?a37 ?l37 ?c37 ?k37 ?a38 ?l38 ?c38 ?k38 ?a39 ?l39 ?c39 ?k39 ?z_abs ?z_all ?z_bool ?z_int ?z_isinstance ?z_len ?z_max ?z_min ?z_range ?z_sorted ?z_str ?z_tuple ?y_DOWN ?y_HALF_EVEN ?y_HALF_UP ?y_MOST_STEPS ?y_MOST_WIDTH ?y_ODD ?y_PAIR_cells ?y_PAIR_chains ?y_RULES ?x_RULES ?y_UP
    (case a0 => k_is); (case l0 => k_is); (case c0 => k_is); (case k0 => k_is); (case a1 => k_is); (case l1 => k_is); (case c1 => k_is); (case k1 => k_is); (case a2 => k_is); (case l2 => k_is); (case c2 => k_is); (case k2 => k_is); (case a3 => k_is); (case l3 => k_is); (case c3 => k_is); (case k3 => k_is); (case a4 => k_is); (case l4 => k_is); (case c4 => k_is); (case k4 => k_is); (case a5 => k_is); (case l5 => k_is); (case c5 => k_is); (case k5 => k_is); (case a6 => k_is); (case l6 => k_is); (case c6 => k_is); (case k6 => k_is); (case a7 => k_is); (case l7 => k_is); (case c7 => k_is); (case k7 => k_is); (case a8 => k_is); (case l8 => k_is); (case c8 => k_is); (case k8 => k_is); (case a9 => k_is); (case l9 => k_is); (case c9 => k_is); (case k9 => k_is); (case a10 => k_is); (case l10 => k_is); (case c10 => k_is); (case k10 => k_is); (case a11 => k_is); (case l11 => k_is); (case c11 => k_is); (case k11 => k_is); (case a12 => k_is); (case l12 => k_is); (case c12 => k_is); (case k12 => k_is); (case a13 => k_is); (case l13 => k_is); (case c13 => k_is); (case k13 => k_is); (case a14 => k_is); (case l14 => k_is); (case c14 => k_is); (case k14 => k_is); (case a15 => k_is); (case l15 => k_is); (case c15 => k_is); (case k15 => k_is); (case a16 => k_is); (case l16 => k_is); (case c16 => k_is); (case k16 => k_is); (case a17 => k_is); (case l17 => k_is); (case c17 => k_is); (case k17 => k_is); (case a18 => k_is); (case l18 => k_is); (case c18 => k_is); (case k18 => k_is); (case a19 => k_is); (case l19 => k_is); (case c19 => k_is); (case k19 => k_is); (case a20 => k_is); (case l20 => k_is); (case c20 => k_is); (case k20 => k_is); (case a21 => k_is); (case l21 => k_is); (case c21 => k_is); (case k21 => k_is); (case a22 => k_is); (case l22 => k_is); (case c22 => k_is); (case k22 => k_is); (case a23 => k_is); (case l23 => k_is); (case c23 => k_is); (case k23 => k_is); (case a24 => k_is); (case l24 => k_is); (case c24 => k_is); (case k24 => k_is); (case a25 => k_is); (case l25 => k_is); (case c25 => k_is); (case k25 => k_is); (case a26 => k_is); (case l26 => k_is); (case c26 => k_is); (case k26 => k_is); (case a27 => k_is); (case l27 => k_is); (case c27 => k_is); (case k27 => k_is); (case a28 => k_is); (case l28 => k_is); (case c28 => k_is); (case k28 => k_is); (case a29 => k_is); (case l29 => k_is); (case c29 => k_is); (case k29 => k_is); (case a30 => k_is); (case l30 => k_is); (case c30 => k_is); (case k30 => k_is); (case a31 => k_is); (case l31 => k_is); (case c31 => k_is); (case k31 => k_is); (case a32 => k_is); (case l32 => k_is); (case c32 => k_is); (case k32 => k_is); (case a33 => k_is); (case l33 => k_is); (case c33 => k_is); (case k33 => k_is); (case a34 => k_is); (case l34 => k_is); (case c34 => k_is); (case k34 => k_is); (case a35 => k_is); (case l35 => k_is); (case c35 => k_is); (case k35 => k_is); (case a36 => k_is); (case l36 => k_is); (case c36 => k_is); (case k36 => k_is); (case a37 => k_is); (case l37 => k_is); (case c37 => k_is); (case k37 => k_is); (case a38 => k_is); (case l38 => k_is); (case c38 => k_is); (case k38 => k_is); (case a39 => k_is); (case l39 => k_is); (case c39 => k_is); (case k39 => k_is); (case z_abs => k_is); (case z_all => k_is); (case z_bool => k_is); (case z_int => k_is); (case z_isinstance => k_is); (case z_len => k_is); (case z_max => k_is); (case z_min => k_is); (case z_range => k_is); (case z_sorted => k_is); (case z_str => k_is); (case z_tuple => k_is); (case y_DOWN => k_is); (case y_HALF_EVEN => k_is); (case y_HALF_UP => k_is); (case y_MOST_STEPS => k_is); (case y_MOST_WIDTH => k_is); (case y_ODD => k_is); (case y_PAIR_cells => k_is); (case y_PAIR_chains => k_is); (case y_RULES => k_is); (case x_RULES => k_is); (case y_UP => k_is)
