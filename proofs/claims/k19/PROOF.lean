import PyProof.Rows.All
import HandS.ForMost
import HandS.Evl
import HandS.IsInst
import HandS.Wide
import HandS.WideBits
import HandS.Zip
import HandS.Flow
import HandS.TupAny
import HandS.Exc
import HandS.Lambda
import HandS.Style
import HandS.Walk
import HandS.Rev
import HandS.RaiseMore
import KE.KNestM
import HandS.WideMore
import PyProof.ReprLen
import PyProof.ReprRoads
import HandS.Conv
import HandS.More
import HandS.HeadHook3
import KE.SortData
import PyProof.ListMulAny
import HandS.Deep
import KE.KDictZip
import PyProof.ListNew
import KE.GoesEnum
import HandS.Iter
import HandS.Text
import KE.DataCmp
import PyProof.LongRange
import HandS.NoneIn
import HandS.SetFor
import HandS.Strs
import HandS.TupMul
import HandS.ExcInit
import HandS.ExcOwn
import HandS.FStr
import HandS.TryMany
import HandS.ExcField
import HandS.ExcIs
import KE.KExcIs
import HandS.WrittenGet
import KE.GoesZip
import KE.GoesMore
import PySem.Challenge.RW_stagedrounding_k19_two_chains_of_any_val
set_option Elab.async false
set_option linter.all false
set_option maxRecDepth 100000
set_option maxHeartbeats 4000000
set_option autoImplicit false
namespace Z
open L2 PySem PySem.Spec PyProof.Rows
open Evl (Ex ex_l ex_t ex_rd fresh_back)
abbrev Da := PyData
abbrev Fg := PySem.W.Frag
def keyD : Key → Da
  | .inl i => .int i
  | .inr x => .str x
mutual
inductive Rp (K : Fg) (F : Hp) : V → Da → Prop
  | non : Rp K F .non .none
  | bl (b : Bool) : Rp K F (.bl b) (.bool b)
  | int (i : Int) : Rp K F (.int i) (.int i)
  | str (x : Str) : Rp K F (.str x) (.str x)
  | lst {a : Addr} {xs : List V} {ds : List Da} : F a = some (.lst xs) → Rps K F xs ds → Rp K F (.ref a) (.list ds)
  | tup {a : Addr} {xs : List V} {ds : List Da} : SqT K F a xs → Rps K F xs ds → Rp K F (.ref a) (.tuple ds)
  | dct {a : Addr} {kvs : List (Key × V)} {es : List (Da × Da)} : Rd F a (.dK kvs) → RpK K F kvs es → Rp K F (.ref a) (.dict es)
inductive Rps (K : Fg) (F : Hp) : List V → List Da → Prop
  | nil : Rps K F [] []
  | cons {v : V} {vs : List V} {d : Da} {ds : List Da} : Rp K F v d → Rps K F vs ds → Rps K F (v :: vs) (d :: ds)
inductive RpK (K : Fg) (F : Hp) : List (Key × V) → List (Da × Da) → Prop
  | nil : RpK K F [] []
  | cons {k : Key} {v : V} {vs : List (Key × V)} {d : Da} {ds : List (Da × Da)} : Rp K F v d → RpK K F vs ds → RpK K F ((k, v) :: vs) ((keyD k, d) :: ds)
end
section
variable {K : Fg} {F F' : Hp}
mutual
theorem Rp.mono (e : Ex F F') : ∀ (d : Da) (v : V), Rp K F v d → Rp K F' v d
  | .none, _, h => by cases h; exact .non
  | .bool b, _, h => by cases h; exact .bl b
  | .int i, _, h => by cases h; exact .int i
  | .str x, _, h => by cases h; exact .str x
  | .list ds, _, h => by cases h with | lst hs ha => exact .lst (e _ _ hs) (Rps.mono e ds _ ha)
  | .tuple ds, _, h => by cases h with | tup hs ha => exact .tup (ex_t e hs) (Rps.mono e ds _ ha)
  | .dict es, _, h => by cases h with | dct hs ha => exact .dct (ex_rd e hs) (RpK.mono e es _ ha)
theorem Rps.mono (e : Ex F F') : ∀ (ds : List Da) (vs : List V), Rps K F vs ds → Rps K F' vs ds
  | [], _, h => by cases h; exact .nil
  | d :: ds, _, h => by cases h with | cons h1 h2 => exact .cons (Rp.mono e d _ h1) (Rps.mono e ds _ h2)
theorem RpK.mono (e : Ex F F') : ∀ (ds : List (Da × Da)) (vs : List (Key × V)), RpK K F vs ds → RpK K F' vs ds
  | [], _, h => by cases h; exact .nil
  | (_, d) :: ds, _, h => by cases h with | cons h1 h2 => exact .cons (Rp.mono e d _ h1) (RpK.mono e ds _ h2)
end
theorem Rp.up {v : V} {d : Da} (h : Rp K F v d) (e : Ex F F') : Rp K F' v d := Rp.mono e d v h
theorem Rps.up {v : List V} {d : List Da} (h : Rps K F v d) (e : Ex F F') : Rps K F' v d := Rps.mono e d v h
theorem Rps.len : ∀ {vs : List V} {ds : List Da}, Rps K F vs ds → vs.length = ds.length
  | _, _, .nil => rfl
  | _, _, .cons _ t => congrArg (· + 1) t.len
theorem Rps.get : ∀ {vs : List V} {ds : List Da} {i : Nat} {d : Da}, Rps K F vs ds → ds[i]? = some d → ∃ v, vs[i]? = some v ∧ Rp K F v d
  | _, _, _, _, .nil, e => by simp at e
  | _, _, 0, _, .cons r _, e => by simp at e; subst e; exact ⟨_, rfl, r⟩
  | _, _, i + 1, d, .cons _ t, e => by
    obtain ⟨u, h1, h2⟩ := Rps.get (i := i) (d := d) t (by simpa using e)
    exact ⟨u, by simpa using h1, h2⟩
theorem Rps.app : ∀ {vs us : List V} {ds es : List Da}, Rps K F vs ds → Rps K F us es → Rps K F (vs ++ us) (ds ++ es)
  | _, _, _, _, .nil, s => s
  | _, _, _, _, .cons r t, s => .cons r (t.app s)
end
/-- a still thing that is no datum: an instance by its class's name and its fields; an exception of the program's own by its class's name and its value -/
inductive Kd where | ins (nm : Str) (fs : List (Str × Da)) | exc (nm : Str) (z : Option Da) | at (p : Addr) | insAt (p : Addr) (nm : Str) (fs : List (Str × Da)) | lam (F0 : Hp) (f c : Addr) (q : Str)
/-- what an exception in the air says -/
def XvOk (K : Fg) (F : Hp) (cls : Value) (dd : Option Addr) (nm : Str) : Option Da → Prop
  | some z => ∃ (C x : Addr) (u : V), cls = .ref C ∧ PySem.W.nsIn K mainGlobals nm = some (some (.ref C)) ∧ dd = some x ∧ F x = some (.xd [("value", u)]) ∧ Rp K F u z
  | none => ∃ C : Addr, cls = .ref C ∧ PySem.W.nsIn K mainGlobals nm = some (some (.ref C)) ∧ dd = none
theorem XvOk.up {K : Fg} {F F' : Hp} {cls : Value} {dd : Option Addr} {nm : Str} (e : Ex F F') : ∀ {z : Option Da}, XvOk K F cls dd nm z → XvOk K F' cls dd nm z
  | some _, ⟨C, x, u, h1, h2, h3, h4, h5⟩ => ⟨C, x, u, h1, h2, h3, e _ _ h4, h5.up e⟩
  | none, h => h
/-- an exception that was caught, at a -/
def exT (a : Addr) (cls : Value) (d : Option Addr) : HO := .ext fun h => ∃ (oe : Obj) (vs : Array Value), h.get? a = some oe ∧ Zc cls d oe ∧ oe.data = .fields vs
def ObOk (K : Fg) (F : Hp) (v : V) : Kd → Prop
  | .ins nm fs => ∃ (p C dx : Addr) (us : List (Str × V)), v = .ref p ∧ PySem.W.nsIn K mainGlobals nm = some (some (.ref C)) ∧ F p = some (.ins C dx us) ∧ us.map Prod.fst = fs.map Prod.fst ∧ Rps K F (us.map Prod.snd) (fs.map Prod.snd)
  | .exc nm z => ∃ (a : Addr) (cls : Value) (dd : Option Addr), v = .ref a ∧ F a = some (exT a cls dd) ∧ XvOk K F cls dd nm z
  | .at p => v = .ref p
  | .lam F0 f c q => v = .ref f ∧ F c = some (LamX.CodeO c q) ∧ Ex F0 F
  | .insAt p nm fs => ∃ (C dx : Addr) (us : List (Str × V)), v = .ref p ∧ PySem.W.nsIn K mainGlobals nm = some (some (.ref C)) ∧ F p = some (.ins C dx us) ∧ us.map Prod.fst = fs.map Prod.fst ∧ Rps K F (us.map Prod.snd) (fs.map Prod.snd)
theorem ObOk.up {K : Fg} {F F' : Hp} {v : V} (e : Ex F F') : ∀ {k : Kd}, ObOk K F v k → ObOk K F' v k
  | .ins _ _, ⟨p, C, dx, us, h1, h2, h3, h4, h5⟩ => ⟨p, C, dx, us, h1, h2, e _ _ h3, h4, h5.up e⟩
  | .exc _ _, ⟨a, cls, dd, h1, h2, h3⟩ => ⟨a, cls, dd, h1, e _ _ h2, h3.up e⟩
  | .at _, h => h
  | .lam _ _ _ _, ⟨h1, h2, h3⟩ => ⟨h1, e _ _ h2, h3.trans e⟩
  | .insAt _ _ _, ⟨C, dx, us, h1, h2, h3, h4, h5⟩ => ⟨C, dx, us, h1, h2, e _ _ h3, h4, h5.up e⟩
/-- a local's content: a datum; an own list, not yet given away; the source of draws -/
inductive Sv where | val (d : Da) | own (ds : List Da) | src | scr (ns : List Int) | ob (k : Kd)
/-- an expression's value -/
inductive Rv where | val (d : Da) | src | scr (ns : List Int) | ob (k : Kd)
/-- a def's result; or what it raised: the class's name, the field value -/
inductive Rr where | val (d : Da) | own (ds : List Da) | exc (nm : Str) (d : Option Da)
structure Gs where
  sl : List (Option Sv)
  fu : Option Nat
  ow : Bool
/-- the entry: the still part, the heap, the source that was handed in -/
structure Con where
  F : Hp
  H : Hp
  ext : Option Addr
def modS : Int := 2305843009213693921
/-- a source of draws that may be asked n times more -/
def SrcAt (H : Hp) (a : Addr) (n : Nat) : Prop := ∃ x y z : Int, H a = some (.lst [.int x, .int y, .int z]) ∧ 0 ≤ x ∧ x < 2 ^ 1000 ∧ 0 ≤ y ∧ y < modS ∧ 0 ≤ z ∧ z + n ≤ 2 ^ 40
def SlOk (K : Fg) (F H : Hp) (c : Con) (a : Addr) (fu : Option Nat) (v : V) : Sv → Prop
  | .val d => Rp K F v d
  | .own ds => ∃ o xs, v = .ref o ∧ F o = none ∧ c.H o = none ∧ H o = some (.lst xs) ∧ Rps K F xs ds ∧ (fu ≠ none → o ≠ a)
  | .src => v = .ref a ∧ fu ≠ none
  | .scr ns => ∃ b, v = .ref b ∧ SqL K F b (ns.map V.int)
  | .ob k => ObOk K F v k
def RvOk (K : Fg) (F : Hp) (a : Addr) (fu : Option Nat) (v : V) : Rv → Prop
  | .val d => Rp K F v d
  | .src => v = .ref a ∧ fu ≠ none
  | .scr ns => ∃ b, v = .ref b ∧ SqL K F b (ns.map V.int)
  | .ob k => ObOk K F v k
theorem RvOk.up {K : Fg} {F F' : Hp} {a : Addr} {fu : Option Nat} {v : V} (e : Ex F F') : ∀ {r : Rv}, RvOk K F a fu v r → RvOk K F' a fu v r
  | .val _, h => Rp.up h e
  | .src, h => h
  | .scr _, ⟨b, h1, h2⟩ => ⟨b, h1, ex_l e h2⟩
  | .ob _, h => ObOk.up e h
inductive Tm (K : Fg) (F : Hp) (a : Addr) (fu : Option Nat) : List V → List Rv → Prop
  | nil : Tm K F a fu [] []
  | cons {v : V} {vs : List V} {r : Rv} {rs : List Rv} : RvOk K F a fu v r → Tm K F a fu vs rs → Tm K F a fu (v :: vs) (r :: rs)
def LAM : List Str := ["law"]
def lamQ (x : Str) : Str := x ++ ".<locals>.<lambda>"
/-- no table -/
def NT (o : HO) : Prop := ∀ ps, o ≠ .tbl ps
/-- the table at P: known to the heap, not to the still part; its code objects are known to the still part -/
structure TabAt (F H : Hp) (P : Addr) (q : Str) : Prop where
  ex : ∃ ps : Array Value, H P = some (.tbl ps) ∧ PySem.TriplesOk ps.toList ∧ ∀ (pos : Pos) (cv : Value), PySem.codeAmong pos ps.toList = some cv → ∃ c, cv = .ref c ∧ F c = some (LamX.CodeO c q)
  no : F P = none
def TabK (K : Fg) (F H : Hp) : Prop := ∀ x c P, x ∈ LAM → PySem.W.tabIn K x = some (c, P) → TabAt F H P (lamQ x)
theorem TabK.up {K : Fg} {F H F' H' : Hp} (t : TabK K F H) (ef : Ex F F') (eh : ∀ b ps, H b = some (.tbl ps) → H' b = some (.tbl ps)) (rn : ∀ b, F' b ≠ none → F b ≠ none ∨ ∀ ps, H b ≠ some (.tbl ps)) : TabK K F' H' := fun x c P h1 h2 => by
  obtain ⟨⟨ps, a1, a2, a3⟩, a4⟩ := t x c P h1 h2
  refine ⟨⟨ps, eh P ps a1, a2, fun pos cv hc => ?_⟩, ?_⟩
  · obtain ⟨c, e1, e2⟩ := a3 pos cv hc
    exact ⟨c, e1, ef _ _ e2⟩
  · cases q : F' P with
    | none => rfl
    | some o =>
      rcases rn P (by rw [q]; exact fun z => nomatch z) with w | w
      · exact absurd a4 w
      · exact absurd a1 (w ps)
/-- the still part grows by a list of the heap -/
theorem TabK.lst {K : Fg} {F H : Hp} {o : Addr} {xs : List V} (t : TabK K F H) (ho : H o = some (.lst xs)) (fo : F o = none) : TabK K (upd F o (.lst xs)) H :=
  t.up (Ex.new fo) (fun _ _ h => h) fun b h => by
    by_cases z : b = o
    · subst z
      exact .inr fun ps e => by rw [ho] at e; cases e
    · rw [upd_ne z] at h
      exact .inl h
/-- another thing at o, where there was no table -/
theorem TabK.but {K : Fg} {F H H' : Hp} {o : Addr} {w : HO} (t : TabK K F H) (ho : H o = some w) (n : NT w) (e : ∀ b u, b ≠ o → H b = some u → H' b = some u) : TabK K F H' :=
  t.up (Ex.refl F) (fun b ps h => e b _ (fun z => by rw [z, ho] at h; cases h; exact n _ rfl) h) fun _ h => .inl h
/-- tables stay tables -/
def TbS (H H' : Hp) : Prop := ∀ b ps, H b = some (.tbl ps) → ∃ ps', H' b = some (.tbl ps')
theorem TbS.refl {H : Hp} : TbS H H := fun _ ps h => ⟨ps, h⟩
theorem TbS.ex {H H' : Hp} (e : Ex H H') : TbS H H' := fun b ps h => ⟨ps, e b _ h⟩
theorem TbS.trans {H H1 H2 : Hp} (a : TbS H H1) (b : TbS H1 H2) : TbS H H2 := fun x ps h => let ⟨ps', h'⟩ := a x ps h; b x ps' h'
theorem TbS.but {H H' : Hp} {o : Addr} {w : HO} (ho : H o = some w) (n : NT w) (e : ∀ b u, b ≠ o → H b = some u → H' b = some u) : TbS H H' :=
  fun b ps h => ⟨ps, e b _ (fun z => by rw [z, ho] at h; cases h; exact n _ rfl) h⟩
structure Sta (K : Fg) (c : Con) (g : Gs) (σ : L2.St) (H : Hp) (tv : List V) (tr : List Rv) (F : Hp) (a : Addr) : Prop where
  e0 : Ex c.F F
  eh : Ex F H
  keep : ∀ b o, c.ext ≠ some b → NT o → c.H b = some o → H b = some o
  new : ∀ b, F b ≠ none → c.F b ≠ none ∨ c.H b = none
  ex : ∀ b, c.ext = some b → a = b ∧ g.fu ≠ none
  ow : g.ow = true → c.ext = none
  src : ∀ n, g.fu = some n → F a = none ∧ (c.ext = some a ∨ (c.ext = none ∧ c.H a = none)) ∧ SrcAt H a n
  tmp : Tm K F a g.fu tv tr
  len : σ.length = g.sl.length
  slot : ∀ (i : Nat) s, g.sl[i]? = some (some s) → ∃ v, σ[i]? = some (some v) ∧ SlOk K F H c a g.fu v s
  dis : ∀ (i j : Nat) ds es, i ≠ j → g.sl[i]? = some (some (.own ds)) → g.sl[j]? = some (some (.own es)) → σ[i]? ≠ σ[j]?
  t0 : TabK K F H
  tab : TbS c.H H
/-- still part and heap have grown -/
structure Gr (F H F' H' : Hp) : Prop where
  f : Ex F F'
  h : Ex H H'
  s : Ex F' H'
  n : ∀ b, F' b ≠ none → F b ≠ none ∨ H b = none
theorem Gr.refl {F H : Hp} (e : Ex F H) : Gr F H F H := ⟨Ex.refl _, Ex.refl _, e, fun _ h => .inl h⟩
theorem ne_none {α : Type} {x : Option α} {o : α} (h : x = some o) : x ≠ none := by rw [h]; exact fun z => nomatch z
theorem Gr.new {F H : Hp} {p : Addr} {o : HO} (e : Ex F H) (hp : H p = none) : Gr F H (upd F p o) (upd H p o) := by
  have fp : F p = none := fresh_back e hp
  refine ⟨Ex.new fp, Ex.new hp, fun b u q => ?_, fun b q => ?_⟩
  · by_cases hb : b = p
    · subst hb; rw [upd_same] at q ⊢; exact q
    · rw [upd_ne hb] at q ⊢; exact e b u q
  · by_cases hb : b = p
    · subst hb; exact .inr hp
    · rw [upd_ne hb] at q; exact .inl q
theorem Gr.trans {F H F1 H1 F2 H2 : Hp} (a : Gr F H F1 H1) (b : Gr F1 H1 F2 H2) : Gr F H F2 H2 :=
  ⟨a.f.trans b.f, a.h.trans b.h, b.s, fun x q => by
    rcases b.n x q with z | z
    · exact a.n x z
    · exact .inr (fresh_back a.h z)⟩
theorem Tm.up {K : Fg} {F F' : Hp} {a : Addr} {fu : Option Nat} (e : Ex F F') : ∀ {tv : List V} {tr : List Rv}, Tm K F a fu tv tr → Tm K F' a fu tv tr
  | _, _, .nil => .nil
  | _, _, .cons (r := r) h t => .cons (h.up e) (t.up e)
section
variable {K : Fg} {c : Con} {g : Gs} {σ : L2.St} {H H' F F' : Hp} {tv : List V} {tr : List Rv} {a : Addr}
/-- an old address is not new -/
theorem Sta.fresh (s : Sta K c g σ H tv tr F a) {b : Addr} (h : H b = none) : c.H b = none := by
  cases q : c.H b with
  | none => rfl
  | some o =>
    by_cases hx : c.ext = some b
    · obtain ⟨e1, e2⟩ := s.ex b hx
      subst e1
      cases hf : g.fu with
      | none => exact absurd hf e2
      | some n =>
        obtain ⟨_, _, x, y, z, e, _⟩ := s.src n hf
        rw [h] at e; cases e
    · cases o with
      | tbl ps =>
        obtain ⟨ps', z⟩ := s.tab b ps q
        rw [h] at z; cases z
      | _ => rw [s.keep b _ hx (fun _ z => by cases z) q] at h; cases h
theorem Sta.tabk (s : Sta K c g σ H tv tr F a) : TabK K F H := s.t0
theorem Sta.growN (s : Sta K c g σ H tv tr F a) (rf : Ex F F') (rh : ∀ b o, NT o → H b = some o → H' b = some o) (rs : Ex F' H') (rn : ∀ b, F' b ≠ none → F b ≠ none ∨ H b = none) (rt : TbS H H') (rk : TabK K F' H') : Sta K c g σ H' tv tr F' a where
  e0 := s.e0.trans rf
  eh := rs
  keep := fun b o h1 hn h2 => rh b o hn (s.keep b o h1 hn h2)
  new := fun b q => by
    rcases rn b q with z | z
    · exact s.new b z
    · exact .inr (s.fresh z)
  ex := s.ex
  ow := s.ow
  src := fun n h => by
    obtain ⟨h1, h2, x, y, z, e, h3⟩ := s.src n h
    refine ⟨?_, h2, x, y, z, rh _ _ (fun _ z => by cases z) e, h3⟩
    cases q : F' a with
    | none => rfl
    | some o =>
      rcases rn a (ne_none q) with z | z
      · exact absurd h1 z
      · rw [e] at z; cases z
  tmp := s.tmp.up rf
  len := s.len
  slot := fun i sv h => by
    obtain ⟨v, h1, h2⟩ := s.slot i sv h
    refine ⟨v, h1, ?_⟩
    cases sv with
    | val d => exact Rp.up h2 rf
    | src => exact h2
    | scr ns => obtain ⟨b, z1, z2⟩ := h2; exact ⟨b, z1, ex_l rf z2⟩
    | ob k => exact ObOk.up rf h2
    | own ds =>
      obtain ⟨o, xs, q1, q2, q3, q4, q5, q6⟩ := h2
      refine ⟨o, xs, q1, ?_, q3, rh _ _ (fun _ z => by cases z) q4, q5.up rf, q6⟩
      cases q : F' o with
      | none => rfl
      | some u =>
        rcases rn o (ne_none q) with z | z
        · exact absurd q2 z
        · rw [q4] at z; cases z
  dis := s.dis
  t0 := rk
  tab := s.tab.trans rt
theorem Sta.grow (s : Sta K c g σ H tv tr F a) (r : Gr F H F' H') : Sta K c g σ H' tv tr F' a := s.growN r.f (fun b o _ h => r.h b o h) r.s r.n (.ex r.h) (s.t0.up r.f (fun b ps h => r.h b _ h) fun b h => (r.n b h).imp id fun z ps e => by rw [z] at e; cases e)
theorem Sta.push (s : Sta K c g σ H tv tr F a) {v : V} {r : Rv} (h : RvOk K F a g.fu v r) : Sta K c g σ H (v :: tv) (r :: tr) F a :=
  ⟨s.e0, s.eh, s.keep, s.new, s.ex, s.ow, s.src, .cons h s.tmp, s.len, s.slot, s.dis, s.t0, s.tab⟩
theorem Sta.pop (s : Sta K c g σ H tv tr F a) {tv' : List V} {tr' : List Rv} (h : Tm K F a g.fu tv' tr') : Sta K c g σ H tv' tr' F a :=
  ⟨s.e0, s.eh, s.keep, s.new, s.ex, s.ow, s.src, h, s.len, s.slot, s.dis, s.t0, s.tab⟩
theorem Sta.pop1 {v : V} {r : Rv} (s : Sta K c g σ H (v :: tv) (r :: tr) F a) : Sta K c g σ H tv tr F a :=
  s.pop (by cases s.tmp with | cons _ t => exact t)
theorem Sta.top {v : V} {r : Rv} (s : Sta K c g σ H (v :: tv) (r :: tr) F a) : RvOk K F a g.fu v r := by
  cases s.tmp with | cons h _ => exact h
end
abbrev DE := Gs → (Rv → Gs → Prop) → Prop
abbrev DL := Gs → (List Da → Gs → Prop) → Prop
abbrev DT := Gs → (Bool → Gs → Prop) → Prop
abbrev DA := Gs → (List Rv → Gs → Prop) → Prop
structure DEnds where
  nx : Gs → Prop
  rt : Rr → Gs → Prop
  bk : Gs → Prop := fun _ => False
  ct : Gs → Prop := fun _ => False
abbrev DS := DEnds → Gs → Prop
def up (K : Fg) (t : DE) : TE := fun σ H Q => ∃ c g tv tr F a post, Sta K c g σ H tv tr F a ∧ t g post ∧
  ∀ r g' v H' F' a', post r g' → Sta K c g' σ H' (v :: tv) (r :: tr) F' a' → Q v H'
def upT (K : Fg) (t : DT) : TT := fun σ H Q => ∃ c g tv tr F a post, Sta K c g σ H tv tr F a ∧ t g post ∧
  ∀ b g' H' F' a', post b g' → Sta K c g' σ H' tv tr F' a' → Q b H'
/-- a new list, at an address of its own -/
structure NewL (K : Fg) (c : Con) (g : Gs) (σ : L2.St) (H F : Hp) (a : Addr) (v : V) (ds : List Da) : Prop where
  ex : ∃ o xs, v = .ref o ∧ F o = none ∧ c.H o = none ∧ H o = some (.lst xs) ∧ Rps K F xs ds ∧ (g.fu ≠ none → o ≠ a) ∧
    ∀ (i : Nat) (es : List Da), g.sl[i]? = some (some (Sv.own es)) → σ[i]? ≠ some (some (V.ref o))
def upL (K : Fg) (t : DL) : TE := fun σ H Q => ∃ c g tv tr F a post, Sta K c g σ H tv tr F a ∧ t g post ∧
  ∀ ds g' v H' F' a', post ds g' → Sta K c g' σ H' tv tr F' a' → NewL K c g' σ H' F' a' v ds → Q v H'
def upA (K : Fg) (t : DA) : TA := fun σ H Q => ∃ c g tv tr F a post, Sta K c g σ H tv tr F a ∧ t g post ∧
  ∀ rs g' vs H' F' a', post rs g' → Sta K c g' σ H' (vs.reverse ++ tv) (rs.reverse ++ tr) F' a' → vs.length = rs.length → Q vs H'
structure DD (K : Fg) (Wx : WX) (c : Con) (tv : List V) (tr : List Rv) (d : DEnds) (D : Ends) : Prop where
  nx : ∀ g σ H F a, d.nx g → Sta K c g σ H tv tr F a → D.nx σ H
  bk : ∀ g σ H F a, d.bk g → Sta K c g σ H tv tr F a → D.bk σ H
  ct : ∀ g σ H F a, d.ct g → Sta K c g σ H tv tr F a → D.ct σ H
  rv : ∀ x g σ v H F a, d.rt (.val x) g → Sta K c g σ H (v :: tv) (.val x :: tr) F a → D.rt v H
  ro : ∀ ds g σ v H F a, d.rt (.own ds) g → Sta K c g σ H tv tr F a → NewL K c { g with sl := [] } [] H F a v ds → D.rt v H
  rx : ∀ nm z g σ H F a cls dd, d.rt (.exc nm z) g → Sta K c g σ H tv tr F a → XvOk K F cls dd nm z → Wx cls dd σ H
def hasSrc : List Rv → Bool
  | [] => false
  | .src :: _ => true
  | _ :: r => hasSrc r
theorem hasSrc_app : ∀ {rs ts : List Rv}, hasSrc rs = false → hasSrc ts = false → hasSrc (rs ++ ts) = false
  | [], _, _, h => h
  | .val _ :: rs, _, h, h' => hasSrc_app (rs := rs) h h'
  | .scr _ :: rs, _, h, h' => hasSrc_app (rs := rs) h h'
  | .ob _ :: rs, _, h, h' => hasSrc_app (rs := rs) h h'
  | .src :: _, _, h, _ => by cases h
def upS (K : Fg) (Wx : WX) (t : DS) : TS := fun D σ H => ∃ c g tv tr F a d, Sta K c g σ H tv tr F a ∧ hasSrc tr = false ∧ t d g ∧ DD K Wx c tv tr d D
section
variable {X : Cx} {e : Expr}
theorem pe_to {t t' : TE} (h : PE X e t) (i : ∀ σ H Q, t' σ H Q → t σ H Q) : PE X e t' := ⟨fun pins s σ H Q I q => h.run pins s σ H Q I (i σ H Q q)⟩
theorem pt_to {t t' : TT} (h : PT X e t) (i : ∀ σ H Q, t' σ H Q → t σ H Q) : PT X e t' := ⟨fun pins s σ H Q I q => h.run pins s σ H Q I (i σ H Q q)⟩
theorem pw_to {t t' : TT} (h : PW X e t) (i : ∀ σ H Q, t' σ H Q → t σ H Q) : PW X e t' := ⟨fun w pins s σ H Q I q => h.run w pins s σ H Q I (i σ H Q q)⟩
theorem pa_to {es : List Expr} {t t' : TA} (h : PA X es t) (i : ∀ σ H Q, t' σ H Q → t σ H Q) : PA X es t' := ⟨fun p pins s σ H Q I q => h.run p pins s σ H Q I (i σ H Q q)⟩
theorem ps_to {st : Stmt} {t t' : TS} (h : PS X st t) (i : ∀ D σ H, t' D σ H → t D σ H) : PS X st t' := ⟨fun pins s σ H D I q => h.run pins s σ H D I (i D σ H q)⟩
theorem pss_to {st : List Stmt} {t t' : TS} (h : PSs X st t) (i : ∀ D σ H, t' D σ H → t D σ H) : PSs X st t' := ⟨fun pins s σ H D I q => h.run pins s σ H D I (i D σ H q)⟩
end
def Gs.set (g : Gs) (i : Nat) (s : Sv) : Gs := { g with sl := g.sl.set i (some s) }
def dVar (i : Nat) : DE := fun g Q => match g.sl[i]? with
  | some (some (.val d)) => Q (.val d) g
  | some (some .src) => Q .src g
  | some (some (.scr ns)) => Q (.scr ns) g
  | some (some (.ob k)) => Q (.ob k) g
  | some (some (.own ds)) => Q (.val (.list ds)) (g.set i (.val (.list ds)))
  | _ => False
def dC (d : Da) : DE := fun g Q => Q (.val d) g
section
variable {K : Fg} {c : Con} {g : Gs} {σ : L2.St} {H H' F F' : Hp} {tv : List V} {tr : List Rv} {a : Addr}
/-- an own list is given away: it stands still from now on -/
theorem Sta.freeze (s : Sta K c g σ H tv tr F a) {i : Nat} {ds : List Da} (h : g.sl[i]? = some (some (.own ds))) :
    ∃ o F', σ[i]? = some (some (.ref o)) ∧ Rp K F' (.ref o) (.list ds) ∧ Sta K c (g.set i (.val (.list ds))) σ H tv tr F' a := by
  obtain ⟨v, h1, o, xs, rfl, q2, q3, q4, q5, q6⟩ := s.slot i _ h
  have ef : Ex F (upd F o (.lst xs)) := Ex.new q2
  have ro : Rp K (upd F o (.lst xs)) (.ref o) (.list ds) := .lst upd_same (q5.up ef)
  have hi : i < g.sl.length := (List.getElem?_eq_some_iff.mp h).1
  refine ⟨o, upd F o (.lst xs), h1, ro, s.e0.trans ef, fun b u q => ?_, s.keep, fun b q => ?_, s.ex, s.ow, fun n hn => ?_, s.tmp.up ef, ?_, fun j sv hj => ?_, fun j k es fs hjk hj hk => ?_, s.t0.lst q4 q2, s.tab⟩
  · by_cases hb : b = o
    · subst hb; rw [upd_same] at q; cases q; exact q4
    · rw [upd_ne hb] at q; exact s.eh b u q
  · by_cases hb : b = o
    · subst hb; exact .inr q3
    · rw [upd_ne hb] at q; exact s.new b q
  · obtain ⟨z1, z2⟩ := s.src n hn
    refine ⟨?_, z2⟩
    rw [upd_ne (fun z => q6 (ne_none hn) z.symm)]; exact z1
  · show σ.length = (g.sl.set i _).length
    rw [List.length_set]; exact s.len
  · by_cases hji : j = i
    · subst hji
      have : (g.sl.set j (some (Sv.val (.list ds))))[j]? = some (some sv) := hj
      rw [List.getElem?_set_self hi] at this
      cases this
      exact ⟨_, h1, ro⟩
    · have : (g.sl.set i (some (Sv.val (.list ds))))[j]? = some (some sv) := hj
      rw [List.getElem?_set_ne (Ne.symm hji)] at this
      obtain ⟨v, w1, w2⟩ := s.slot j sv this
      refine ⟨v, w1, ?_⟩
      cases sv with
      | val d => exact Rp.up w2 ef
      | src => exact w2
      | scr ns => obtain ⟨b, z1, z2⟩ := w2; exact ⟨b, z1, ex_l ef z2⟩
      | ob k => exact ObOk.up ef w2
      | own es =>
        obtain ⟨o', ys, r1, r2, r3, r4, r5, r6⟩ := w2
        have ne : o' ≠ o := fun z => s.dis j i es ds hji this h (by rw [w1, h1, r1, z])
        exact ⟨o', ys, r1, by rw [upd_ne ne]; exact r2, r3, r4, r5.up ef, r6⟩
  · have n1 : j ≠ i := fun z => by
      subst z
      have : (g.sl.set j (some (Sv.val (.list ds))))[j]? = some (some (.own es)) := hj
      rw [List.getElem?_set_self hi] at this; cases this
    have n2 : k ≠ i := fun z => by
      subst z
      have : (g.sl.set k (some (Sv.val (.list ds))))[k]? = some (some (.own fs)) := hk
      rw [List.getElem?_set_self hi] at this; cases this
    have e1 : (g.sl.set i (some (Sv.val (.list ds))))[j]? = some (some (.own es)) := hj
    have e2 : (g.sl.set i (some (Sv.val (.list ds))))[k]? = some (some (.own fs)) := hk
    rw [List.getElem?_set_ne (Ne.symm n1)] at e1
    rw [List.getElem?_set_ne (Ne.symm n2)] at e2
    exact s.dis j k es fs hjk e1 e2
end
section
variable {X : Cx} {e : Expr}
theorem e_var (i : Nat) (h : PE X e (tVar i)) : PE X e (up X.K (dVar i)) := pe_to h fun σ H Q q => by
  obtain ⟨c, g, tv, tr, F, a, post, s, t, k⟩ := q
  unfold dVar at t
  split at t
  · rename_i d hd
    obtain ⟨v, h1, h2⟩ := s.slot i _ hd
    exact ⟨v, h1, k _ g v H F a t (s.push (r := .val d) h2)⟩
  · rename_i hd
    obtain ⟨v, h1, h2⟩ := s.slot i _ hd
    exact ⟨v, h1, k _ g v H F a t (s.push (r := .src) h2)⟩
  · rename_i ns hd
    obtain ⟨v, h1, h2⟩ := s.slot i _ hd
    exact ⟨v, h1, k _ g v H F a t (s.push (r := .scr ns) h2)⟩
  · rename_i kd hd
    obtain ⟨v, h1, h2⟩ := s.slot i _ hd
    exact ⟨v, h1, k _ g v H F a t (s.push (r := .ob kd) h2)⟩
  · rename_i ds hd
    obtain ⟨o, F', h1, h2, s'⟩ := s.freeze hd
    exact ⟨_, h1, k _ _ _ H F' a t (s'.push (r := .val (.list ds)) h2)⟩
  · exact t.elim
/-- anything whose value is plain and the same always -/
theorem e_c {v : V} {d : Da} (h : PE X e (tC v)) (r : ∀ F, Rp X.K F v d) : PE X e (up X.K (dC d)) := pe_to h fun σ H Q q => by
  obtain ⟨c, g, tv, tr, F, a, post, s, t, k⟩ := q
  exact k _ g v H F a t (s.push (r := .val d) (r F))
theorem e_int {i j pos} : PE X (.Constant (.int i) j pos) (up X.K (dC (.int i))) := e_c pe_int fun _ => .int i
theorem e_bl {b j pos} : PE X (.Constant (.bool b) j pos) (up X.K (dC (.bool b))) := e_c pe_bl fun _ => .bl b
theorem e_non {j pos} : PE X (.Constant .none j pos) (up X.K (dC .none)) := e_c pe_non fun _ => .non
theorem e_str {x j pos} : PE X (.Constant (.str x) j pos) (up X.K (dC (.str x))) := e_c pe_str fun _ => .str x
end
end Z
namespace Z
open L2 PySem PySem.Spec PyProof.Rows
open Evl (Ex ex_l ex_t ex_rd fresh_back)
abbrev BinF := Da → Da → (Da → Prop) → Prop
def dBin (f : BinF) (ta tb : DE) : DE := fun g Q => ta g fun x g1 => tb g1 fun y g2 => match x, y with
  | .val d, .val e => f d e fun z => Q (.val z) g2
  | _, _ => False
/-- on values: what r asks follows from f -/
def BinOk (K : Fg) (r : R2) (f : BinF) : Prop := ∀ (F H : Hp) (x y : V) (d e : Da) (post : Da → Prop) (Q : VK), Ex F H → Rp K F x d → Rp K F y e → f d e post →
  (∀ z v H' F', post z → Gr F H F' H' → Rp K F' v z → Q v H') → r x y H Q
section
variable {X : Cx} {a b : Expr} {ta tb : DE} {pos : Pos} {f : BinF} {r : R2}
theorem bin_core (hf : BinOk X.K r f) : ∀ σ H Q, up X.K (dBin f ta tb) σ H Q → tOp r (up X.K ta) (up X.K tb) σ H Q := fun σ H Q q => by
  obtain ⟨c, g, tv, tr, F, ad, post, s, t, k⟩ := q
  refine ⟨c, g, tv, tr, F, ad, _, s, t, fun x g1 v1 H1 F1 a1 t1 s1 => ?_⟩
  refine ⟨c, g1, _, _, F1, a1, _, s1, t1, fun y g2 v2 H2 F2 a2 t2 s2 => ?_⟩
  cases x with
  | val d =>
    cases y with
    | val e =>
      have r1 : Rp X.K F2 v1 d := s2.pop1.top
      have r2 : Rp X.K F2 v2 e := s2.top
      refine hf F2 H2 v1 v2 d e _ Q s2.eh r1 r2 t2 fun z v H' F' hz gr rz => ?_
      exact k _ g2 v H' F' a2 hz ((s2.pop1.pop1.grow gr).push (r := .val z) rz)
    | src => exact t2.elim
    | scr _ => exact t2.elim
    | ob _ => exact t2.elim
  | src => exact t2.elim
  | scr _ => exact t2.elim
  | ob _ => exact t2.elim
theorem e_bin {op : Operator} (ho : OpR X (binaryOp op) r) (hf : BinOk X.K r f) (ha : PE X a (up X.K ta)) (hb : PE X b (up X.K tb)) : PE X (.BinOp a op b pos) (up X.K (dBin f ta tb)) :=
  pe_to (pe_op ho ha hb) (bin_core hf)
theorem e_cmp {op : CmpOp} (ho : OpR X (compareOp op) r) (hf : BinOk X.K r f) (ha : PE X a (up X.K ta)) (hb : PE X b (up X.K tb)) (hm : behindInMarks op b = false) : PE X (.Compare a [op] [b] pos) (up X.K (dBin f ta tb)) :=
  pe_to (pe_cmpR ho ha hb hm) (bin_core hf)
theorem or_op {ff : Value → Value → Sem Value} {r1 r2 : R2} (h1 : OpR X ff r1) (h2 : OpR X ff r2) : OpR X ff (fun x y H Q => r1 x y H Q ∨ r2 x y H Q) := by
  intro pins s σ H x y v u Q I rx ry h
  rcases h with h | h
  · exact h1 pins s σ H x y v u Q I rx ry h
  · exact h2 pins s σ H x y v u Q I rx ry h
end
def fI (C : Int → Int → Prop) (o : Int → Int → Da) : BinF := fun d e post => match d, e with
  | .int i, .int j => C i j ∧ post (o i j)
  | _, _ => False
section
variable {K : Fg}
theorem ok_I {C : Int → Int → Prop} {o : Int → Int → Int} : BinOk K (rI C fun i j => .int (o i j)) (fI C fun i j => .int (o i j)) := fun F H x y d e post Q hx r1 r2 hf k => by
  cases d with
  | int i =>
    cases e with
    | int j =>
      cases r1; cases r2
      exact ⟨i, j, rfl, rfl, hf.1, k _ _ H F hf.2 (Gr.refl hx) (.int _)⟩
    | _ => exact hf.elim
  | _ => exact hf.elim
end
def fI0 (o : Int → Int → Da) : BinF := fun d e post => match d, e with
  | .int i, .int j => post (o i j)
  | _, _ => False
section
variable {K : Fg}
theorem ok_I0 {o : Int → Int → Int} : BinOk K (rI0 fun i j => .int (o i j)) (fI0 fun i j => .int (o i j)) := fun F H x y d e post Q hx r1 r2 hf k => by
  cases d with
  | int i =>
    cases e with
    | int j =>
      cases r1; cases r2
      exact ⟨i, j, rfl, rfl, k _ _ H F hf (Gr.refl hx) (.int _)⟩
    | _ => exact hf.elim
  | _ => exact hf.elim
theorem ok_I0b {o : Int → Int → Bool} : BinOk K (rI0 fun i j => .bl (o i j)) (fI0 fun i j => .bool (o i j)) := fun F H x y d e post Q hx r1 r2 hf k => by
  cases d with
  | int i =>
    cases e with
    | int j =>
      cases r1; cases r2
      exact ⟨i, j, rfl, rfl, k _ _ H F hf (Gr.refl hx) (.bl _)⟩
    | _ => exact hf.elim
  | _ => exact hf.elim
end
def CPowX (i j : Int) : Prop := 0 ≤ j ∧ (Builtin.Int.intBits i : Int) * j ≤ 2 ^ 27
/-- +: ints, texts, tuples, lists -/
def fAdd : BinF := fun d e post => match d, e with
  | .int i, .int j => post (.int (i + j))
  | .str x, .str y => x.length + y.length ≤ sizeLine ∧ post (.str (x ++ y))
  | .tuple xs, .tuple ys => xs ≠ [] ∧ xs.length + ys.length ≤ sizeLine ∧ post (.tuple (xs ++ ys))
  | .list xs, .list ys => xs.length + ys.length ≤ sizeLine ∧ post (.list (xs ++ ys))
  | _, _ => False
section
variable {X : Cx} {a b : Expr} {ta tb : DE} {pos : Pos}
theorem Rps.nil_iff {K : Fg} {F : Hp} {xs : List V} {ds : List Da} (h : Rps K F xs ds) : xs = [] ↔ ds = [] := by
  cases h <;> simp
theorem e_add (ha : PE X a (up X.K ta)) (hb : PE X b (up X.K tb)) : PE X (.BinOp a .Add b pos) (up X.K (dBin fAdd ta tb)) := by
  refine e_bin (or_op op_add (or_op op_add_str (or_op op_catT op_cat))) ?_ ha hb
  intro F H x y d e post Q hx r1 r2 hf k
  cases d with
  | int i =>
    cases e with
    | int j =>
      cases r1; cases r2
      exact .inl ⟨i, j, rfl, rfl, k _ _ H F hf (Gr.refl hx) (.int _)⟩
    | _ => exact hf.elim
  | str u =>
    cases e with
    | str w =>
      cases r1; cases r2
      exact .inr (.inl ⟨u, w, rfl, rfl, hf.1, k _ _ H F hf.2 (Gr.refl hx) (.str _)⟩)
    | _ => exact hf.elim
  | tuple ds =>
    cases e with
    | tuple es =>
      cases r1 with
      | tup s1 m1 =>
        cases r2 with
        | tup s2 m2 =>
          rename_i p1 xs p2 ys
          obtain ⟨h1, h2, h3⟩ := hf
          refine .inr (.inr (.inl ⟨p1, p2, xs, ys, rfl, rfl, ex_t hx s1, ex_t hx s2, fun z => h1 (m1.nil_iff.mp z), by rw [m1.len, m2.len]; exact h2, fun z => ?_, fun z p hp => ?_⟩))
          · have : es = [] := m2.nil_iff.mp z
            subst this
            rw [List.append_nil] at h3
            exact k _ _ H F h3 (Gr.refl hx) (.tup s1 m1)
          · have gr := Gr.new (o := .tup (xs ++ ys)) hx hp
            exact k _ _ _ _ h3 gr (.tup (.inl (.inl upd_same)) ((m1.up gr.f).app (m2.up gr.f)))
    | _ => exact hf.elim
  | list ds =>
    cases e with
    | list es =>
      cases r1 with
      | lst s1 m1 =>
        cases r2 with
        | lst s2 m2 =>
          rename_i p1 xs p2 ys
          obtain ⟨h2, h3⟩ := hf
          refine .inr (.inr (.inr ⟨p1, p2, xs, ys, rfl, rfl, hx _ _ s1, hx _ _ s2, by rw [m1.len, m2.len]; exact h2, fun p hp => ?_⟩))
          have gr := Gr.new (o := .lst (xs ++ ys)) hx hp
          exact k _ _ _ _ h3 gr (.lst upd_same ((m1.up gr.f).app (m2.up gr.f)))
    | _ => exact hf.elim
  | _ => exact hf.elim
theorem e_sub (ha : PE X a (up X.K ta)) (hb : PE X b (up X.K tb)) : PE X (.BinOp a .Sub b pos) (up X.K (dBin (fI0 fun i j => .int (i - j)) ta tb)) := e_bin op_sub ok_I0 ha hb
theorem e_mul (ha : PE X a (up X.K ta)) (hb : PE X b (up X.K tb)) : PE X (.BinOp a .Mult b pos) (up X.K (dBin (fI CMulX fun i j => .int (i * j)) ta tb)) := e_bin op_mulX ok_I ha hb
theorem e_div (ha : PE X a (up X.K ta)) (hb : PE X b (up X.K tb)) : PE X (.BinOp a .FloorDiv b pos) (up X.K (dBin (fI CDivW fun i j => .int (i / j)) ta tb)) := e_bin op_fdivW ok_I ha hb
theorem e_mod (ha : PE X a (up X.K ta)) (hb : PE X b (up X.K tb)) : PE X (.BinOp a .Mod b pos) (up X.K (dBin (fI (fun _ j => 0 < j) fun i j => .int (i % j)) ta tb)) := e_bin op_mod ok_I ha hb
theorem e_shl (ha : PE X a (up X.K ta)) (hb : PE X b (up X.K tb)) : PE X (.BinOp a .LShift b pos) (up X.K (dBin (fI CShl fun i j => .int (i * 2 ^ j.toNat)) ta tb)) := e_bin op_shlW ok_I ha hb
theorem op_powX : OpR X (binaryOp .Pow) (rI CPowX fun i j => .int (i ^ j.toNat)) := opI fun _ _ _ _ _ _ _ hc q => pow_int hc.1 hc.2 q
theorem e_pow (ha : PE X a (up X.K ta)) (hb : PE X b (up X.K tb)) : PE X (.BinOp a .Pow b pos) (up X.K (dBin (fI CPowX fun i j => .int (i ^ j.toNat)) ta tb)) := e_bin op_powX ok_I ha hb
theorem e_lt (ha : PE X a (up X.K ta)) (hb : PE X b (up X.K tb)) : PE X (.Compare a [.Lt] [b] pos) (up X.K (dBin (fI0 fun i j => .bool (decide (i < j))) ta tb)) := e_cmp op_lt ok_I0b ha hb (nomark _)
theorem e_le (ha : PE X a (up X.K ta)) (hb : PE X b (up X.K tb)) : PE X (.Compare a [.LtE] [b] pos) (up X.K (dBin (fI0 fun i j => .bool (decide (i ≤ j))) ta tb)) := e_cmp op_le ok_I0b ha hb (nomark _)
theorem e_ge (ha : PE X a (up X.K ta)) (hb : PE X b (up X.K tb)) : PE X (.Compare a [.GtE] [b] pos) (up X.K (dBin (fI0 fun i j => .bool (decide (j ≤ i))) ta tb)) := e_cmp op_ge ok_I0b ha hb (nomark _)
end
section
variable {K : Fg} {F H : Hp}
mutual
theorem Rp.dp (e : Ex F H) : ∀ (d : Da) (v : V), Rp K F v d → d.canLay0 = true → Dp K H v d
  | .none, _, h, _ => by cases h; exact .non
  | .bool b, _, h, _ => by cases h; exact .bl b
  | .int i, _, h, _ => by cases h; exact .int i
  | .str x, _, h, _ => by cases h; exact .str x
  | .list ds, _, h, q => by cases h with | lst hs ha => exact .lst (.inl (.inl (e _ _ hs))) (Rps.dp e ds _ ha (by simpa [PyData.canLay0] using q))
  | .tuple ds, _, h, q => by cases h with | tup hs ha => exact .tup (ex_t e hs) (Rps.dp e ds _ ha (by simpa [PyData.canLay0] using q))
  | .dict es, _, h, q => by simp [PyData.canLay0] at q
theorem Rps.dp (e : Ex F H) : ∀ (ds : List Da) (vs : List V), Rps K F vs ds → PyData.canLayAll0 ds = true → DpAll K H vs ds
  | [], _, h, _ => by cases h; exact .nil
  | d :: ds, _, h, q => by
    cases h with
    | cons h1 h2 =>
      have q' : d.canLay0 = true ∧ PyData.canLayAll0 ds = true := by simpa [PyData.canLayAll0] using q
      exact .cons (Rp.dp e d _ h1 q'.1) (Rps.dp e ds _ h2 q'.2)
end
end
def fEq : BinF := fun d e post => SeqAt.shaped d = true ∧ SeqAt.shaped e = true ∧ post (.bool (d.eqv e))
def fNe : BinF := fun d e post => SeqAt.shaped d = true ∧ SeqAt.shaped e = true ∧ post (.bool (!d.eqv e))
theorem shaped_lay {d : Da} (h : SeqAt.shaped d = true) : d.canLay0 = true := by
  unfold SeqAt.shaped at h
  rw [Bool.and_eq_true] at h
  exact h.1
section
variable {X : Cx} {a b : Expr} {ta tb : DE} {pos : Pos}
theorem e_eq (hu : X.A.units + 64 < cLine) (ha : PE X a (up X.K ta)) (hb : PE X b (up X.K tb)) : PE X (.Compare a [.Eq] [b] pos) (up X.K (dBin fEq ta tb)) :=
  e_cmp (op_eqD hu) (fun F H x y d e post Q hx r1 r2 hf k => ⟨d, e, r1.dp hx d x (shaped_lay hf.1), r2.dp hx e y (shaped_lay hf.2.1), hf.1, hf.2.1, k _ _ H F hf.2.2 (Gr.refl hx) (.bl _)⟩) ha hb (nomark _)
end
def flatD : Da → Bool
  | .none => true
  | .bool _ => true
  | .int _ => true
  | .str _ => true
  | _ => false
def inD (d : Da) (es : List Da) : Bool := es.any fun y => y.eqv d
def fIn (neg : Bool) : BinF := fun d e post => match e with
  | .tuple es => flatD d = true ∧ es.all flatD = true ∧ post (.bool (if neg then !inD d es else inD d es))
  | .list es => flatD d = true ∧ es.all flatD = true ∧ post (.bool (if neg then !inD d es else inD d es))
  | _ => False
section
variable {K : Fg} {F H : Hp}
theorem flat_v {v : V} {d : Da} (r : Rp K F v d) (h : flatD d = true) : flatV v = true := by
  cases r <;> first | rfl | exact absurd (show false = true from h) Bool.false_ne_true
theorem eqv_v {v w : V} {d e : Da} (r : Rp K F v d) (q : Rp K F w e) (h : flatD d = true) (h' : flatD e = true) : eqV v w = d.eqv e := by
  cases r <;> first | exact absurd (show false = true from h) Bool.false_ne_true | (cases q <;> first | exact absurd (show false = true from h') Bool.false_ne_true | (simp [eqV, PyData.eqv]))
theorem flat_vs : ∀ {vs : List V} {ds : List Da}, Rps K F vs ds → ds.all flatD = true → vs.all flatV = true
  | _, _, .nil, _ => rfl
  | _, _, .cons r t, h => by
    rw [List.all_cons, Bool.and_eq_true] at h ⊢
    exact ⟨flat_v r h.1, flat_vs t h.2⟩
theorem in_v {x : V} {d : Da} (r : Rp K F x d) (hd : flatD d = true) : ∀ {vs : List V} {ds : List Da}, Rps K F vs ds → ds.all flatD = true → inV x vs = inD d ds
  | _, _, .nil, _ => rfl
  | _, _, .cons q t, h => by
    rw [List.all_cons, Bool.and_eq_true] at h
    have ih := in_v r hd t h.2
    unfold inV inD at ih ⊢
    rw [List.any_cons, List.any_cons, ih, eqv_v q r h.1 hd]
theorem ok_in {neg : Bool} : BinOk K (rIn K neg) (fIn neg) := fun F H x y d e post Q hx r1 r2 hf k => by
  cases e with
  | tuple es =>
    cases r2 with
    | tup s1 m1 =>
      obtain ⟨h1, h2, h3⟩ := hf
      refine ⟨_, _, rfl, .inr (ex_t hx s1), flat_v r1 h1, flat_vs m1 h2, ?_⟩
      rw [in_v r1 h1 m1 h2]
      exact k _ _ H F h3 (Gr.refl hx) (.bl _)
  | list es =>
    cases r2 with
    | lst s1 m1 =>
      obtain ⟨h1, h2, h3⟩ := hf
      refine ⟨_, _, rfl, .inl (.inl (.inl (hx _ _ s1))), flat_v r1 h1, flat_vs m1 h2, ?_⟩
      rw [in_v r1 h1 m1 h2]
      exact k _ _ H F h3 (Gr.refl hx) (.bl _)
  | _ => exact hf.elim
end
section
variable {X : Cx} {a b : Expr} {ta tb : DE} {pos : Pos}
theorem e_in (ha : PE X a (up X.K ta)) (hb : PE X b (up X.K tb)) (hm : behindInMarks .In b = false := by rfl) : PE X (.Compare a [.In] [b] pos) (up X.K (dBin (fIn false) ta tb)) := e_cmp op_in_seq ok_in ha hb hm
end
end Z
namespace Z
open L2 PySem PySem.Spec PyProof.Rows
open Evl (Ex ex_l ex_t ex_rd fresh_back)
def dTest (t : DE) : DT := fun g Q => t g fun r g1 => match r with
  | .val (.bool b) => Q b g1
  | _ => False
def dAndT (ta tb : DT) : DT := fun g Q => ta g fun b g1 => (b = true → tb g1 Q) ∧ (b = false → Q false g1)
def dOrT (ta tb : DT) : DT := fun g Q => ta g fun b g1 => (b = true → Q true g1) ∧ (b = false → tb g1 Q)
def dNotT (ta : DT) : DT := fun g Q => ta g fun b g1 => Q (!b) g1
def dAndV (ta tb : DE) : DE := fun g Q => ta g fun r g1 => match r with
  | .val (.bool b) => (b = true → tb g1 Q) ∧ (b = false → Q (.val (.bool false)) g1)
  | _ => False
def dOrV (ta tb : DE) : DE := fun g Q => ta g fun r g1 => match r with
  | .val (.bool b) => (b = true → Q (.val (.bool true)) g1) ∧ (b = false → tb g1 Q)
  | _ => False
def dNotV (ta : DE) : DE := fun g Q => ta g fun r g1 => match r with
  | .val (.bool b) => Q (.val (.bool (!b))) g1
  | _ => False
def dIf (t : DT) (ta tb : DE) : DE := fun g Q => t g fun b g1 => (b = true → ta g1 Q) ∧ (b = false → tb g1 Q)
section
variable {K : Fg} {F : Hp} {a : Addr} {fu : Option Nat} {v : V}
theorem RvOk.bl {r : Rv} (h : RvOk K F a fu v r) {b : Bool} (e : r = .val (.bool b)) : v = .bl b := by
  subst e
  have h' : Rp K F v (.bool b) := h
  cases h'; rfl
end
section
variable {X : Cx} {a b c e : Expr} {ta tb t : DE} {sa sb : DT} {pos : Pos} {rest : List Expr}
theorem t_val (h : PE X e (up X.K t)) (hw : ∀ whole : Sem Value, isTrue e X.env whole = (do
    let v ← whole
    standAt e.pos
    holding [v] (truthy v)) := by intro _; rfl) : PT X e (upT X.K (dTest t)) := pt_to (pt_val h hw) fun σ H Q q => by
  obtain ⟨c, g, tv, tr, F, ad, post, s, t1, k⟩ := q
  refine ⟨c, g, tv, tr, F, ad, _, s, t1, fun r g1 v1 H1 F1 a1 h1 s1 => ?_⟩
  cases r with
  | val d =>
    cases d with
    | bool b => exact ⟨b, s1.top.bl rfl, k b g1 H1 F1 a1 h1 s1.pop1⟩
    | _ => exact h1.elim
  | _ => exact h1.elim
theorem w_and (h1 : PT X a (upT X.K sa)) (h2 : PW X (.BoolOp .And (b :: rest) pos) (upT X.K sb)) : PW X (.BoolOp .And (a :: b :: rest) pos) (upT X.K (dAndT sa sb)) := pw_to (pw_and h1 h2) fun σ H Q q => by
  obtain ⟨c, g, tv, tr, F, ad, post, s, t1, k⟩ := q
  refine ⟨c, g, tv, tr, F, ad, _, s, t1, fun b g1 H1 F1 a1 h1 s1 => ?_⟩
  cases b with
  | true => rw [if_pos rfl]; exact ⟨c, g1, tv, tr, F1, a1, _, s1, h1.1 rfl, k⟩
  | false => rw [if_neg Bool.false_ne_true]; exact k false g1 H1 F1 a1 (h1.2 rfl) s1
theorem w_and1 (h1 : PT X a (upT X.K sa)) : PW X (.BoolOp .And [a] pos) (upT X.K sa) := pw_and1 h1
theorem w_or (h1 : PT X a (upT X.K sa)) (h2 : PW X (.BoolOp .Or (b :: rest) pos) (upT X.K sb)) : PW X (.BoolOp .Or (a :: b :: rest) pos) (upT X.K (dOrT sa sb)) := pw_to (pw_or h1 h2) fun σ H Q q => by
  obtain ⟨c, g, tv, tr, F, ad, post, s, t1, k⟩ := q
  refine ⟨c, g, tv, tr, F, ad, _, s, t1, fun b g1 H1 F1 a1 h1 s1 => ?_⟩
  cases b with
  | true => rw [if_pos rfl]; exact k true g1 H1 F1 a1 (h1.1 rfl) s1
  | false => rw [if_neg Bool.false_ne_true]; exact ⟨c, g1, tv, tr, F1, a1, _, s1, h1.2 rfl, k⟩
theorem w_or1 (h1 : PT X a (upT X.K sa)) : PW X (.BoolOp .Or [a] pos) (upT X.K sa) := pw_or1 h1
theorem t_not (h1 : PT X a (upT X.K sa)) : PT X (.UnaryOp .Not a pos) (upT X.K (dNotT sa)) := pt_to (pt_not h1) fun σ H Q q => by
  obtain ⟨c, g, tv, tr, F, ad, post, s, t1, k⟩ := q
  exact ⟨c, g, tv, tr, F, ad, _, s, t1, fun b g1 H1 F1 a1 h1 s1 => k _ g1 H1 F1 a1 h1 s1⟩
theorem e_and (h1 : PE X a (up X.K ta)) (h2 : PE X (.BoolOp .And (b :: rest) pos) (up X.K tb)) : PE X (.BoolOp .And (a :: b :: rest) pos) (up X.K (dAndV ta tb)) := pe_to (pe_and h1 h2) fun σ H Q q => by
  obtain ⟨c, g, tv, tr, F, ad, post, s, t1, k⟩ := q
  refine ⟨c, g, tv, tr, F, ad, _, s, t1, fun r g1 v1 H1 F1 a1 h1 s1 => ?_⟩
  cases r with
  | val d =>
    cases d with
    | bool b =>
      refine ⟨b, s1.top.bl rfl, ?_⟩
      cases b with
      | true => rw [if_pos rfl]; exact ⟨c, g1, tv, tr, F1, a1, _, s1.pop1, h1.1 rfl, k⟩
      | false => rw [if_neg Bool.false_ne_true]; exact k _ g1 _ H1 F1 a1 (h1.2 rfl) (s1.pop1.push (r := .val (.bool false)) (Rp.bl false))
    | _ => exact h1.elim
  | _ => exact h1.elim
theorem e_or (h1 : PE X a (up X.K ta)) (h2 : PE X (.BoolOp .Or (b :: rest) pos) (up X.K tb)) : PE X (.BoolOp .Or (a :: b :: rest) pos) (up X.K (dOrV ta tb)) := pe_to (pe_or h1 h2) fun σ H Q q => by
  obtain ⟨c, g, tv, tr, F, ad, post, s, t1, k⟩ := q
  refine ⟨c, g, tv, tr, F, ad, _, s, t1, fun r g1 v1 H1 F1 a1 h1 s1 => ?_⟩
  cases r with
  | val d =>
    cases d with
    | bool b =>
      refine ⟨b, s1.top.bl rfl, ?_⟩
      cases b with
      | true => rw [if_pos rfl]; exact k _ g1 _ H1 F1 a1 (h1.1 rfl) (s1.pop1.push (r := .val (.bool true)) (Rp.bl true))
      | false => rw [if_neg Bool.false_ne_true]; exact ⟨c, g1, tv, tr, F1, a1, _, s1.pop1, h1.2 rfl, k⟩
    | _ => exact h1.elim
  | _ => exact h1.elim
theorem e_one {op : BoolOp} (h1 : PE X a (up X.K ta)) : PE X (.BoolOp op [a] pos) (up X.K ta) := pe_one h1
theorem e_not (h1 : PE X a (up X.K ta)) : PE X (.UnaryOp .Not a pos) (up X.K (dNotV ta)) := pe_to (pe_not h1) fun σ H Q q => by
  obtain ⟨c, g, tv, tr, F, ad, post, s, t1, k⟩ := q
  refine ⟨c, g, tv, tr, F, ad, _, s, t1, fun r g1 v1 H1 F1 a1 h1 s1 => ?_⟩
  cases r with
  | val d =>
    cases d with
    | bool b => exact ⟨b, s1.top.bl rfl, k _ g1 _ H1 F1 a1 h1 (s1.pop1.push (r := .val (.bool (!b))) (Rp.bl (!b)))⟩
    | _ => exact h1.elim
  | _ => exact h1.elim
theorem e_if (h : PT X c (upT X.K sa)) (h1 : PE X a (up X.K ta)) (h2 : PE X b (up X.K tb)) : PE X (.IfExp c a b pos) (up X.K (dIf sa ta tb)) := pe_to (pe_ifExp h h1 h2) fun σ H Q q => by
  obtain ⟨c, g, tv, tr, F, ad, post, s, t1, k⟩ := q
  refine ⟨c, g, tv, tr, F, ad, _, s, t1, fun b g1 H1 F1 a1 h1 s1 => ?_⟩
  cases b with
  | true => rw [if_pos rfl]; exact ⟨c, g1, tv, tr, F1, a1, _, s1, h1.1 rfl, k⟩
  | false => rw [if_neg Bool.false_ne_true]; exact ⟨c, g1, tv, tr, F1, a1, _, s1, h1.2 rfl, k⟩
/-- x is None, x is not None -/
def isNon : Da → Bool
  | .none => true
  | _ => false
def dIsN (neg : Bool) (ta : DE) : DE := fun g Q => ta g fun r g1 => match r with
  | .val d => Q (.val (.bool (if neg then !isNon d else isNon d))) g1
  | _ => False
theorem non_v {K : Fg} {F : Hp} {v : V} {d : Da} (h : Rp K F v d) : decide (v = .non) = isNon d := by
  cases h <;> simp [isNon]
/-- a < b < c -/
def dChain (f f' : BinF) (ta tb tc : DE) : DE := fun g Q => ta g fun x g1 => tb g1 fun y g2 => match x, y with
  | .val d, .val e => f d e fun z => match z with
    | .bool true => tc g2 fun w g3 => match w with
      | .val h => f' e h fun z' => Q (.val z') g3
      | _ => False
    | .bool false => Q (.val (.bool false)) g2
    | _ => False
  | _, _ => False
end
end Z
namespace Z
open L2 PySem PySem.Spec PyProof.Rows
open Evl (Ex ex_l ex_t ex_rd fresh_back)
section
variable {X : Cx} {a b c e : Expr} {ta tb tc t : DE} {pos : Pos}
theorem chain_core {r r' : R2} {f f' : BinF} (hf : BinOk X.K r f) (hf' : BinOk X.K r' f') {σ : L2.St} {H : Hp} {Q : VK} (q : up X.K (dChain f f' ta tb tc) σ H Q) : tChain r r' (up X.K ta) (up X.K tb) (up X.K tc) σ H Q := by
  obtain ⟨c, g, tv, tr, F, ad, post, s, t, k⟩ := q
  refine ⟨c, g, tv, tr, F, ad, _, s, t, fun x g1 v1 H1 F1 a1 t1 s1 => ?_⟩
  refine ⟨c, g1, _, _, F1, a1, _, s1, t1, fun y g2 v2 H2 F2 a2 t2 s2 => ?_⟩
  cases x with
  | val d =>
    cases y with
    | val e =>
      have r1 : Rp X.K F2 v1 d := s2.pop1.top
      have r2 : Rp X.K F2 v2 e := s2.top
      refine hf F2 H2 v1 v2 d e _ _ s2.eh r1 r2 t2 fun z v H3 F3 hz gr rz => ?_
      cases z with
      | bool k1 =>
        cases rz
        have s3 := s2.grow gr
        refine ⟨k1, rfl, ?_⟩
        cases k1 with
        | true =>
          rw [if_pos rfl]
          refine ⟨c, g2, _, _, F3, a2, _, s3, hz, fun w g4 v4 H4 F4 a4 t4 s4 => ?_⟩
          cases w with
          | val h =>
            have q2 : Rp X.K F4 v2 e := s4.pop1.top
            have q4 : Rp X.K F4 v4 h := s4.top
            exact hf' F4 H4 v2 v4 e h _ _ s4.eh q2 q4 t4 fun z' v' H5 F5 hz' gr' rz' => k _ g4 v' H5 F5 a4 hz' ((s4.pop1.pop1.pop1.grow gr').push (r := .val z') rz')
          | _ => exact t4.elim
        | false =>
          rw [if_neg Bool.false_ne_true]
          exact k _ g2 _ H3 F3 a2 hz (s3.pop1.pop1.push (r := .val (.bool false)) (Rp.bl false))
      | _ => exact hz.elim
    | _ => exact t2.elim
  | _ => exact t2.elim
theorem e_chain {op op' : CmpOp} {r r' : R2} {f f' : BinF} (ho : OpR X (compareOp op) r) (ho' : OpR X (compareOp op') r') (hf : BinOk X.K r f) (hf' : BinOk X.K r' f') (ha : PE X a (up X.K ta)) (hb : PE X b (up X.K tb)) (hc : PE X c (up X.K tc))
    (hm : lastMarks [op, op'] [b, c] = false := by with_unfolding_all rfl) : PE X (.Compare a [op, op'] [b, c] pos) (up X.K (dChain f f' ta tb tc)) := pe_to (pe_chain ho ho' ha hb hc hm) fun _ _ _ q => chain_core hf hf' q
theorem e_lele (ha : PE X a (up X.K ta)) (hb : PE X b (up X.K tb)) (hc : PE X c (up X.K tc)) (hm : lastMarks [.LtE, .LtE] [b, c] = false := by with_unfolding_all rfl) :
    PE X (.Compare a [.LtE, .LtE] [b, c] pos) (up X.K (dChain (fI0 fun i j => .bool (decide (i ≤ j))) (fI0 fun i j => .bool (decide (i ≤ j))) ta tb tc)) := e_chain op_le op_le ok_I0b ok_I0b ha hb hc hm
end
def dNil : DA := fun g Q => Q [] g
def dCons (te : DE) (tr : DA) : DA := fun g Q => te g fun x g1 => tr g1 fun xs g2 => Q (x :: xs) g2
section
variable {K : Fg} {F : Hp} {a : Addr} {fu : Option Nat}
theorem Tm.app : ∀ {xs ys : List V} {rs ts : List Rv}, Tm K F a fu xs rs → Tm K F a fu ys ts → Tm K F a fu (xs ++ ys) (rs ++ ts)
  | _, _, _, _, .nil, s => s
  | _, _, _, _, .cons r t, s => .cons r (t.app s)
theorem Tm.rev : ∀ {xs : List V} {rs : List Rv}, Tm K F a fu xs rs → Tm K F a fu xs.reverse rs.reverse
  | _, _, .nil => .nil
  | _, _, .cons r t => by
    rw [List.reverse_cons, List.reverse_cons]
    exact t.rev.app (.cons r .nil)
theorem Tm.split : ∀ {xs ys : List V} {rs ts : List Rv}, xs.length = rs.length → Tm K F a fu (xs ++ ys) (rs ++ ts) → Tm K F a fu xs rs ∧ Tm K F a fu ys ts
  | [], _, [], _, _, h => ⟨.nil, h⟩
  | [], _, _ :: _, _, e, _ => by simp at e
  | _ :: _, _, [], _, e, _ => by simp at e
  | x :: xs, ys, r :: rs, ts, e, h => by
    have h' : Tm K F a fu (x :: (xs ++ ys)) (r :: (rs ++ ts)) := h
    cases h' with
    | cons h1 h2 =>
      obtain ⟨q1, q2⟩ := Tm.split (by simpa using e) h2
      exact ⟨.cons h1 q1, q2⟩
theorem Tm.args {vs tv : List V} {rs tr : List Rv} (h : Tm K F a fu (vs.reverse ++ tv) (rs.reverse ++ tr)) (e : vs.length = rs.length) : Tm K F a fu vs rs ∧ Tm K F a fu tv tr := by
  obtain ⟨h1, h2⟩ := Tm.split (by simpa using e) h
  have := h1.rev
  rw [List.reverse_reverse, List.reverse_reverse] at this
  exact ⟨this, h2⟩
end
def valsD : List Rv → Option (List Da)
  | [] => some []
  | .val d :: rs => (valsD rs).map (d :: ·)
  | _ :: _ => none
theorem Tm.vals {K : Fg} {F : Hp} {a : Addr} {fu : Option Nat} : ∀ {vs : List V} {rs : List Rv} {ds : List Da}, Tm K F a fu vs rs → valsD rs = some ds → Rps K F vs ds
  | _, _, _, .nil, e => by cases e; exact .nil
  | _, .val d :: rs, ds, .cons h t, e => by
    unfold valsD at e
    cases q : valsD rs with
    | none => rw [q] at e; cases e
    | some es =>
      rw [q] at e
      cases e
      exact .cons h (t.vals q)
  | _, .src :: rs, ds, .cons h t, e => by cases e
  | _, .scr _ :: rs, ds, .cons h t, e => by cases e
  | _, .ob _ :: rs, ds, .cons h t, e => by cases e
def dTup (ta : DA) : DE := fun g Q => ta g fun rs g1 => match valsD rs with
  | some ds => ds.length ≤ 1000000 ∧ Q (.val (.tuple ds)) g1
  | none => False
def dLst (ta : DA) : DL := fun g Q => ta g fun rs g1 => match valsD rs with
  | some ds => ds.length ≤ 1000000 ∧ Q ds g1
  | none => False
def dFz (t : DL) : DE := fun g Q => t g fun ds g1 => Q (.val (.list ds)) g1
theorem mil {n : Nat} (h : n ≤ 1000000) : n ≤ sizeLine := Nat.le_trans h (by decide)
section
variable {K : Fg} {c : Con} {g : Gs} {σ : L2.St} {H F : Hp} {tv : List V} {tr : List Rv} {a : Addr}
/-- the new list stands still from now on -/
theorem Sta.still (s : Sta K c g σ H tv tr F a) {v : V} {ds : List Da} (h : NewL K c g σ H F a v ds) : ∃ F', Sta K c g σ H (v :: tv) (.val (.list ds) :: tr) F' a := by
  obtain ⟨o, xs, rfl, q2, q3, q4, q5, q6, q7⟩ := h.ex
  have ef : Ex F (upd F o (.lst xs)) := Ex.new q2
  have ro : Rp K (upd F o (.lst xs)) (.ref o) (.list ds) := .lst upd_same (q5.up ef)
  refine ⟨upd F o (.lst xs), s.e0.trans ef, fun b u q => ?_, s.keep, fun b q => ?_, s.ex, s.ow, fun n hn => ?_, .cons ro (s.tmp.up ef), s.len, fun j sv hj => ?_, s.dis, s.t0.lst q4 q2, s.tab⟩
  · by_cases hb : b = o
    · subst hb; rw [upd_same] at q; cases q; exact q4
    · rw [upd_ne hb] at q; exact s.eh b u q
  · by_cases hb : b = o
    · subst hb; exact .inr q3
    · rw [upd_ne hb] at q; exact s.new b q
  · obtain ⟨z1, z2⟩ := s.src n hn
    refine ⟨?_, z2⟩
    rw [upd_ne (fun z => q6 (ne_none hn) z.symm)]; exact z1
  · obtain ⟨v, w1, w2⟩ := s.slot j sv hj
    refine ⟨v, w1, ?_⟩
    cases sv with
    | val d => exact Rp.up w2 ef
    | src => exact w2
    | scr ns => obtain ⟨b, z1, z2⟩ := w2; exact ⟨b, z1, ex_l ef z2⟩
    | ob k => exact ObOk.up ef w2
    | own es =>
      obtain ⟨o', ys, r1, r2, r3, r4, r5, r6⟩ := w2
      have ne : o' ≠ o := fun z => q7 j es hj (by rw [w1, r1, z])
      exact ⟨o', ys, r1, by rw [upd_ne ne]; exact r2, r3, r4, r5.up ef, r6⟩
/-- a list laid at a free address -/
theorem Sta.laid (s : Sta K c g σ H tv tr F a) {p : Addr} (hp : H p = none) {xs : List V} {ds : List Da} (m : Rps K F xs ds) : Sta K c g σ (upd H p (.lst xs)) tv tr F a ∧ NewL K c g σ (upd H p (.lst xs)) F a (.ref p) ds := by
  have fp : F p = none := fresh_back s.eh hp
  have eH : Ex H (upd H p (.lst xs)) := Ex.new hp
  refine ⟨s.grow ⟨Ex.refl _, eH, s.eh.trans eH, fun b h => .inl h⟩, ⟨p, xs, rfl, fp, s.fresh hp, upd_same, m, fun hf z => ?_, fun i es hi z => ?_⟩⟩
  · cases q : g.fu with
    | none => exact hf q
    | some n =>
      obtain ⟨_, _, x, y, w, e, _⟩ := s.src n q
      rw [← z, hp] at e; cases e
  · obtain ⟨v, w1, o, ys, r1, r2, r3, r4, _⟩ := s.slot i _ hi
    rw [z] at w1
    cases w1
    cases r1
    rw [hp] at r4; cases r4
end
section
variable {X : Cx} {e : Expr} {es : List Expr} {te : DE} {tr : DA} {tl : DL} {pos : Pos}
theorem a_nil : PA X [] (upA X.K dNil) := pa_to pa_nil fun σ H Q q => by
  obtain ⟨c, g, tv, tr, F, ad, post, s, t, k⟩ := q
  exact k [] g [] H F ad t s rfl
theorem a_cons (h : PE X e (up X.K te)) (hr : PA X es (upA X.K tr)) (hs : starEach (e :: es) X.env = (false, eval e X.env) :: starEach es X.env := by rfl) : PA X (e :: es) (upA X.K (dCons te tr)) := pa_to (pa_cons h hr hs) fun σ H Q q => by
  obtain ⟨c, g, tv, tr, F, ad, post, s, t, k⟩ := q
  refine ⟨c, g, tv, tr, F, ad, _, s, t, fun x g1 v1 H1 F1 a1 t1 s1 => ?_⟩
  refine ⟨c, g1, _, _, F1, a1, _, s1, t1, fun xs g2 vs H2 F2 a2 t2 s2 hl => ?_⟩
  refine k (x :: xs) g2 (v1 :: vs) H2 F2 a2 t2 ?_ (by simp [hl])
  rw [List.reverse_cons, List.reverse_cons, List.append_assoc, List.append_assoc]
  exact s2
theorem e_tup {x1 : Nat} (h : PA X es (upA X.K tr)) : PE X (.Tuple es x1 pos) (up X.K (dTup tr)) := pe_to (pe_tup h) fun σ H Q q => by
  obtain ⟨c, g, tv, tr, F, ad, post, s, t, k⟩ := q
  refine ⟨c, g, tv, tr, F, ad, _, s, t, fun rs g1 vs H1 F1 a1 t1 s1 hl => ?_⟩
  cases q : valsD rs with
  | none => rw [q] at t1; exact t1.elim
  | some ds =>
    rw [q] at t1
    obtain ⟨m1, m2⟩ := s1.tmp.args hl
    have hv := m1.vals q
    refine ⟨by rw [hv.len]; exact mil t1.1, fun p hp => ?_⟩
    have gr := Gr.new (o := .tup vs) s1.eh hp
    exact k _ g1 _ _ _ a1 t1.2 (((s1.pop m2).grow gr).push (r := .val (.tuple ds)) (.tup (.inl (.inl upd_same)) (hv.up gr.f)))
theorem e_lstL (h : PA X es (upA X.K tr)) : PE X (.List es pos) (upL X.K (dLst tr)) := pe_to (pe_lst h) fun σ H Q q => by
  obtain ⟨c, g, tv, tr, F, ad, post, s, t, k⟩ := q
  refine ⟨c, g, tv, tr, F, ad, _, s, t, fun rs g1 vs H1 F1 a1 t1 s1 hl => ?_⟩
  cases q : valsD rs with
  | none => rw [q] at t1; exact t1.elim
  | some ds =>
    rw [q] at t1
    obtain ⟨m1, m2⟩ := s1.tmp.args hl
    have hv := m1.vals q
    refine ⟨by rw [hv.len]; exact mil t1.1, fun p hp => ?_⟩
    obtain ⟨s2, n2⟩ := (s1.pop m2).laid hp hv
    exact k ds g1 _ _ F1 a1 t1.2 s2 n2
theorem e_fz (h : PE X e (upL X.K tl)) : PE X e (up X.K (dFz tl)) := pe_to h fun σ H Q q => by
  obtain ⟨c, g, tv, tr, F, ad, post, s, t, k⟩ := q
  refine ⟨c, g, tv, tr, F, ad, _, s, t, fun ds g1 v H1 F1 a1 t1 s1 n1 => ?_⟩
  obtain ⟨F2, s2⟩ := s1.still n1
  exact k _ g1 v H1 F2 a1 t1 s2
end
def dIx (ta tb : DE) : DE := fun g Q => ta g fun x g1 => tb g1 fun y g2 => match x, y with
  | .val (.tuple ds), .val (.int i) => (match atI ds i with | some z => Q (.val z) g2 | none => False)
  | .val (.list ds), .val (.int i) => (match atI ds i with | some z => Q (.val z) g2 | none => False)
  | .scr ns, .val (.int i) => (match atI ns i with | some z => Q (.val (.int z)) g2 | none => False)
  | _, _ => False
theorem atI_get {K : Fg} {F : Hp} {vs : List V} {ds : List Da} {i : Int} {d : Da} (h : Rps K F vs ds) (e : atI ds i = some d) : ∃ v, atI vs i = some v ∧ Rp K F v d := by
  unfold atI at e ⊢
  rw [h.len]
  cases q : ixN ds.length i with
  | none => rw [q] at e; cases e
  | some j =>
    rw [q] at e
    exact h.get e
section
variable {X : Cx} {a b : Expr} {ta tb : DE} {pos : Pos}
theorem e_ix (ha : PE X a (up X.K ta)) (hb : PE X b (up X.K tb)) (hs : PlainIx b := by exact fun _ _ => rfl) : PE X (.Subscript a b pos) (up X.K (dIx ta tb)) := pe_to (pe_ix ix_seq ha hb hs) fun σ H Q q => by
  obtain ⟨c, g, tv, tr, F, ad, post, s, t, k⟩ := q
  refine ⟨c, g, tv, tr, F, ad, _, s, t, fun x g1 v1 H1 F1 a1 t1 s1 => ?_⟩
  refine ⟨c, g1, _, _, F1, a1, _, s1, t1, fun y g2 v2 H2 F2 a2 t2 s2 => ?_⟩
  have hx := s2.pop1.top
  have hy := s2.top
  have s3 := s2.pop1.pop1
  split at t2
  · rename_i ds i
    split at t2
    · rename_i z e
      have hy' : Rp X.K F2 v2 (.int i) := hy
      have hx' : Rp X.K F2 v1 (.tuple ds) := hx
      cases hy'
      cases hx' with
      | tup sq m =>
        obtain ⟨w, e1, e2⟩ := atI_get m e
        exact .inr (.inl ⟨_, _, i, w, rfl, rfl, ex_t s2.eh sq, e1, k _ g2 w H2 F2 a2 t2 (s3.push (r := .val z) e2)⟩)
    · exact t2.elim
  · rename_i ds i
    split at t2
    · rename_i z e
      have hy' : Rp X.K F2 v2 (.int i) := hy
      have hx' : Rp X.K F2 v1 (.list ds) := hx
      cases hy'
      cases hx' with
      | lst sq m =>
        obtain ⟨w, e1, e2⟩ := atI_get m e
        exact .inl ⟨_, _, i, w, rfl, rfl, .inl (.inl (s2.eh _ _ sq)), e1, k _ g2 w H2 F2 a2 t2 (s3.push (r := .val z) e2)⟩
    · exact t2.elim
  · rename_i ns i
    split at t2
    · rename_i z e
      have hy' : Rp X.K F2 v2 (.int i) := hy
      cases hy'
      obtain ⟨p, rfl, sq⟩ := hx
      have e' : atI (ns.map V.int) i = some (.int z) := by
        unfold atI at e ⊢
        rw [List.length_map]
        cases q : ixN ns.length i with
        | none => rw [q] at e; cases e
        | some j =>
          rw [q] at e
          show (ns.map V.int)[j]? = _
          rw [List.getElem?_map, show ns[j]? = some z from e]
          rfl
      exact .inl ⟨p, _, i, _, rfl, rfl, ex_l s2.eh sq, e', k _ g2 _ H2 F2 a2 t2 (s3.push (r := .val (.int z)) (Rp.int z))⟩
    · exact t2.elim
  · exact t2.elim
end
end Z
namespace Z
open L2 PySem PySem.Spec PyProof.Rows
open Evl (Ex ex_l ex_t ex_rd fresh_back)
structure Fn (P : Program) (w : World) (K : Fg) (mg : Str → Option Value) (base : Heap) (CX : CXT) (k : Nat) (f : Addr) (fd : FuncData) (ps : List Str) (sp : Sp) : Prop where
  len : ∀ vs H Q E, sp vs H Q E → vs.length = ps.length
  run : ∀ (A : Around) (outer : List Env) (s : Shared) (H : Hp) (args : Args) (us : List Value) (vs : List V) (Q : VK) (E : XK), Room k A → A.guards = some [] →
    Env0 P w K mg base A outer s H → BindsTo s fd args (ps.zip us) → Vals vs us → sp vs H Q E → codeAny (model P w) A (.call (.ref f) args) (CR CX outer P w H s Q E) s
theorem Fn.mono {P : Program} {w : World} {K : Fg} {mg : Str → Option Value} {base : Heap} {CX : CXT} {j k : Nat} {f : Addr} {fd : FuncData} {ps : List Str} {sp : Sp} (F : Fn P w K mg base CX j f fd ps sp) (h : j ≤ k) : Fn P w K mg base CX k f fd ps sp :=
  ⟨F.len, fun A outer s H args us vs Q E hr hg => F.run A outer s H args us vs Q E (hr.mono h) hg⟩
section
variable {P : Program} {w : World} {K : Fg} {mg : Str → Option Value} {base : Heap} {CX : CXT}
theorem fn_by {x qual : Str} {st : Stmt} {f : Addr} {fd : FuncData} {N ps : List Str} {k : Nat} {sp : Sp} (Fu : Fun K x qual st f fd) (S : FnScope N ps (defScope st)) (len : ∀ vs H Q E, sp vs H Q E → vs.length = ps.length)
    (hbody : ∀ (cdv : Value) (A : Around) (outer : List Env) (s : Shared) (H : Hp) (vs : List V) (Q : VK) (E : XK), Room k (A.deeper (envOfC qual (defScope st) s.heap.objs.size f cdv)) →
      (A.deeper (envOfC qual (defScope st) s.heap.objs.size f cdv)).guards = some [] → sp vs H Q E →
      ∃ t, PSs (cxOf CX P w K mg base N qual (defScope st) f cdv A outer s H E) (defBody st) t ∧ t { nx := fun _ H' => Q .non H', rt := Q } (start N vs) H) : Fn P w K mg base CX (k + 1) f fd ps sp := by
  obtain ⟨oc, od, kV, doc, pm, an, cdv, ct, osl, rfl, lk, hcd⟩ := Fu.ex
  refine ⟨len, fun A outer s H args us vs Q E hr hg e0 hb r hsp => ?_⟩
  have KX : K.In s.heap := e0.mod.kin.keeps fun b o e => (e0.bs b o e).1
  have kinds : ∀ y ∈ ps.zip us, (defScope st).names.lookup y.1 = some .local ∨ ((defScope st).names.lookup y.1 = some .cell ∧ ((cellsFrom (s.heap.objs.size + 1) (defScope st).names []).lookup y.1).isSome = true) := by
    rintro ⟨n, v⟩ hy
    exact (S.par n (List.of_mem_zip hy).1).imp id fun q => ⟨q, PySem.W.cellsFrom_some _ _ _ (.inl q)⟩
  refine codeAny_call_function hr.depth (KX _ _ lk) rfl S.co S.gen rfl (PySem.W.codeRec_of KX hcd) (hb _ _ _ _ (wpAny_newFunctionEnv_cells S.kind kinds fun env he s1 x => ?_))
  subst he
  refine ⟨(e0.mod.nolimit.keeps fun b o e => (e0.bs b o e).1).keeps x.toInCall.keep, codeAny_func ?_⟩
  obtain ⟨t, ht, hq⟩ := hbody cdv A outer s H vs Q E (hr.deeper _) hg hsp
  refine wpAny_mono (ht.run [] s1 (start N vs) H _ (inv_start S hr.hd e0 (len _ _ _ _ hsp) r x) hq) (fun fl s' hs => ?_) fun e s' hs => hs
  match fl, hs with
  | .ret u, ⟨v, σ', H', J, rv, q⟩ => exact ⟨v, H', J.os, J.bare, J.base, J.hok, rv, q⟩
  | .next, ⟨σ', H', J, q⟩ => exact ⟨.non, H', J.os, J.bare, J.base, J.hok, rfl, q⟩
  | .brk, ⟨_, _, _, q⟩ => exact q.elim
  | .cont, ⟨_, _, _, q⟩ => exact q.elim
end
section
variable {X : Cx} {CX : CXT} {k : Nat} {f : Addr} {fd : FuncData} {ps : List Str} {sp : Sp} {dvs : List V} {ds : List Value} {E : XK} {x : Str} {p pos : Pos} {e : Expr} {es : List Expr} {t : TA}
theorem fn_run {pins : List (Addr × Obj)} {σ : L2.St} {H : Hp} {s : Shared} {Q : VK} {args : Args} {us : List Value} {vs : List V} (F : Fn X.prog X.w X.K X.mg X.base CX k f fd ps sp) (hr : Room k X.A) (hg : X.A.guards = some []) (hx : Passes CX X E)
    (I : Inv X pins σ H s) (hb : BindsTo s fd args (ps.zip us)) (r : Vals vs us) (h : sp vs H Q E) : codeAny (model X.prog X.w) X.A (.call (.ref f) args) (fun r s' => match r with
      | .ok (.ret u) => EP X pins σ Q u s'
      | .ok _ => False
      | .error e => X.xe e s') s := by
  refine codeAny_mono (F.run X.A X.stack s H args us vs Q E hr hg I.env0 hb r h) fun r s' hq => ?_
  match r, hq with
  | .error e, hq => exact hx pins σ H s e s' I hq
  | .ok (.ret u), hq => exact I.after hq
  | .ok .next, hq => exact False.elim hq
  | .ok .brk, hq => exact False.elim hq
  | .ok .cont, hq => exact False.elim hq
theorem call_fin {pins : List (Addr × Obj)} {σ : L2.St} {H : Hp} {s : Shared} {Q : VK} {us : List Value} {vs : List V} (F : Fn X.prog X.w X.K X.mg X.base CX k f fd ps sp) (hr : Room k X.A) (hg : X.A.guards = some []) (hx : Passes CX X E)
    (I : Inv X pins σ H s) (hb : Binds X.K fd ps []) (r : Vals vs us) (h : sp vs H Q E) : wpAny (model X.prog X.w) X.A (call (.ref f) us) (EP X pins σ Q) X.xe s := by
  have hl : us.length = ps.length := by rw [← r.length]; exact F.len _ _ _ _ h
  have hb' := hb s us I.kIn (by rw [List.append_nil]; exact hl)
  rw [List.append_nil] at hb'
  refine wpAny_call (codeAny_mono (fn_run F hr hg hx I hb' r h) fun r s' hq => ?_)
  match r, hq with
  | .error e, hq => exact hq
  | .ok (.ret u), hq => exact hq
  | .ok .next, hq => exact hq.elim
  | .ok .brk, hq => exact hq.elim
  | .ok .cont, hq => exact hq.elim
theorem pe_fn (F : Fn X.prog X.w X.K X.mg X.base CX k f fd ps sp) (hr : Room k X.A) (hgd : X.A.guards = some []) (hg : Gl X x) (hm : X.mg x = some (.ref f)) (hk : PySem.W.keepIn X.K (.ref f) = true) (hb : Binds X.K fd ps []) (hx : Passes CX X E)
    (ha : PA X (e :: es) t) (hdb : (x == ("__debug__" : Str)) = false := by decide) (he : starEach (e :: es) X.env = (false, eval e X.env) :: starEach es X.env := by rfl) (hpl : (backTo pos (starEach es X.env)).any (·.1) = false := by rfl) :
    PE X (.Call (.Name x p) (e :: es) [] pos) (fun σ H Q => t σ H fun vs H1 => sp vs H1 Q E) :=
  ⟨fun pins s σ H Q I h => wpAny_Call_Name_kw (ld_glob I hg hm (PySem.W.callWith_K (h₀ := X.base) I.ok.mod.kin hk (thn (ha.run pos pins s σ H _ I h) fun us s1 ⟨vs, H1, I1, r, q⟩ => ⟨I1.kIn, call_fin F hr hgd hx I1 hb r q⟩) he hpl) hdb)⟩
end
abbrev FSp := List Rv → Option Nat → (Rr → Option Nat → Prop) → Prop
def RrOk (K : Fg) (F' H H' : Hp) (v : V) : Rr → Prop
  | .val d => Rp K F' v d
  | .own ds => ∃ o xs, v = .ref o ∧ H o = none ∧ F' o = none ∧ H' o = some (.lst xs) ∧ Rps K F' xs ds
  | .exc _ _ => False
/-- how a call lies behind: still part, heap, source -/
structure Out (K : Fg) (F H : Hp) (a : Addr) (fu : Option Nat) (fu' : Option Nat) (F' H' : Hp) (v : V) (r : Rr) : Prop where
  f : Ex F F'
  s : Ex F' H'
  keep : ∀ b o, (fu ≠ none → b ≠ a) → NT o → H b = some o → H' b = some o
  new : ∀ b, F' b ≠ none → F b ≠ none ∨ H b = none
  src : fu ≠ none → ∃ n, fu' = some n ∧ F' a = none ∧ SrcAt H' a n
  rep : RrOk K F' H H' v r
  tab : TbS H H'
  tk : TabK K F' H'
def lift (K : Fg) (np : Nat) (fs : FSp) : Sp := fun vs H Q _ => ∃ F a rs fu post, Ex F H ∧ Tm K F a fu vs rs ∧ vs.length = np ∧ (∀ n, fu = some n → F a = none ∧ SrcAt H a n) ∧ TabK K F H ∧ fs rs fu post ∧
  ∀ r fu' v H' F', post r fu' → Out K F H a fu fu' F' H' v r → Q v H'
theorem lift_len {K : Fg} {np : Nat} {fs : FSp} (vs : List V) (H : Hp) (Q : VK) (E : XK) (h : lift K np fs vs H Q E) : vs.length = np := by
  obtain ⟨_, _, _, _, _, _, _, h, _⟩ := h
  exact h
def rrv : Rr → Rv
  | .val d => .val d
  | .own ds => .val (.list ds)
  | .exc _ _ => .val .none
def dCall (np : Nat) (fs : FSp) (ta : DA) : DE := fun g Q => ta g fun rs g1 => rs.length = np ∧ match hasSrc rs with
  | true => fs rs g1.fu fun r fu' => Q (rrv r) { g1 with fu := fu' }
  | false => fs rs none fun r _ => Q (rrv r) g1
def dCallL (np : Nat) (fs : FSp) (ta : DA) : DL := fun g Q => ta g fun rs g1 => rs.length = np ∧ match hasSrc rs with
  | true => fs rs g1.fu fun r fu' => match r with | .own ds => Q ds { g1 with fu := fu' } | _ => False
  | false => fs rs none fun r _ => match r with | .own ds => Q ds g1 | _ => False
section
variable {K : Fg} {c : Con} {g : Gs} {σ : L2.St} {H F H' F' : Hp} {tv : List V} {tr : List Rv} {a : Addr}
theorem Tm.noSrc : ∀ {vs : List V} {rs : List Rv} {fu : Option Nat}, hasSrc rs = false → Tm K F a fu vs rs → Tm K F a none vs rs
  | _, _, _, _, .nil => .nil
  | _, .val d :: rs, _, h, .cons r t => .cons (show Rp K F _ d from r) (t.noSrc h)
  | _, .scr d :: rs, _, h, .cons r t => .cons r (t.noSrc h)
  | _, .ob d :: rs, _, h, .cons r t => .cons r (t.noSrc h)
  | _, .src :: rs, _, h, .cons r t => by cases h
theorem Tm.fu_ne : ∀ {vs : List V} {rs : List Rv} {fu : Option Nat}, hasSrc rs = true → Tm K F a fu vs rs → fu ≠ none
  | _, _, _, h, .nil => by cases h
  | _, .val d :: rs, _, h, .cons r t => Tm.fu_ne (rs := rs) h t
  | _, .scr d :: rs, _, h, .cons r t => Tm.fu_ne (rs := rs) h t
  | _, .ob d :: rs, _, h, .cons r t => Tm.fu_ne (rs := rs) h t
  | _, .src :: rs, _, h, .cons r t => r.2
theorem Tm.refu {fu fu' : Option Nat} (hf : fu' ≠ none) : ∀ {vs : List V} {rs : List Rv}, Tm K F a fu vs rs → Tm K F a fu' vs rs
  | _, _, .nil => .nil
  | _, .val d :: rs, .cons r t => .cons (show Rp K F _ d from r) (t.refu hf)
  | _, .scr d :: rs, .cons r t => .cons r (t.refu hf)
  | _, .ob d :: rs, .cons r t => .cons r (t.refu hf)
  | _, .src :: rs, .cons r t => .cons ⟨r.1, hf⟩ (t.refu hf)
/-- behind a call that had the source -/
theorem Sta.after1 (s : Sta K c g σ H tv tr F a) {v : V} {r : Rr} {fu' : Option Nat} (hf : g.fu ≠ none) (o : Out K F H a g.fu fu' F' H' v r) : Sta K c { g with fu := fu' } σ H' tv tr F' a := by
  obtain ⟨n', e', na, sa⟩ := o.src hf
  have ne' : fu' ≠ none := ne_none e'
  have oldF : ∀ b, H b ≠ none → F b = none → F' b = none := fun b h1 h2 => by
    cases q : F' b with
    | none => rfl
    | some u =>
      rcases o.new b (ne_none q) with z | z
      · exact absurd h2 z
      · exact absurd z h1
  obtain ⟨n0, e0⟩ : ∃ n, g.fu = some n := by cases q : g.fu with
    | none => exact absurd q hf
    | some n => exact ⟨n, rfl⟩
  obtain ⟨_, sx, _⟩ := s.src n0 e0
  refine ⟨s.e0.trans o.f, o.s, fun b u h1 hn h2 => ?_, fun b q => ?_, fun b h => ⟨(s.ex b h).1, ne'⟩, s.ow, fun n h => ?_, (s.tmp.up o.f).refu ne', s.len, fun i sv h => ?_, s.dis, o.tk, s.tab.trans o.tab⟩
  · refine o.keep b u (fun _ z => ?_) hn (s.keep b u h1 hn h2)
    subst z
    rcases sx with z | ⟨_, z⟩
    · exact h1 z
    · rw [h2] at z; cases z
  · rcases o.new b q with z | z
    · exact s.new b z
    · exact .inr (s.fresh z)
  · have h' : fu' = some n := h
    rw [e'] at h'; cases h'
    exact ⟨na, sx, sa⟩
  · obtain ⟨v, w1, w2⟩ := s.slot i sv h
    refine ⟨v, w1, ?_⟩
    cases sv with
    | val d => exact Rp.up w2 o.f
    | src => exact ⟨w2.1, ne'⟩
    | scr ns => obtain ⟨b, z1, z2⟩ := w2; exact ⟨b, z1, ex_l o.f z2⟩
    | ob k => exact ObOk.up o.f w2
    | own ds =>
      obtain ⟨p, xs, q1, q2, q3, q4, q5, q6⟩ := w2
      exact ⟨p, xs, q1, oldF p (ne_none q4) q2, q3, o.keep p _ (fun _ => q6 hf) (fun _ z => by cases z) q4, q5.up o.f, fun _ => q6 hf⟩
/-- behind a call that had it not -/
theorem Sta.after0 (s : Sta K c g σ H tv tr F a) {v : V} {r : Rr} {fu' : Option Nat} {b : Addr} (o : Out K F H b none fu' F' H' v r) : Sta K c g σ H' tv tr F' a :=
  s.growN o.f (fun x u hn h => o.keep x u (fun z => absurd rfl z) hn h) o.s o.new o.tab o.tk
theorem NewL.of (s : Sta K c g σ H tv tr F a) {g' : Gs} (hs : g'.sl = g.sl) (hfu : g'.fu ≠ none → g.fu ≠ none) {v : V} {ds : List Da} (h : RrOk K F' H H' v (.own ds)) : NewL K c g' σ H' F' a v ds := by
  obtain ⟨o, xs, rfl, q1, q2, q3, q4⟩ := h
  refine ⟨o, xs, rfl, q2, s.fresh q1, q3, q4, fun hf z => ?_, fun i es hi z => ?_⟩
  · cases q : g.fu with
    | none => exact hfu hf q
    | some n =>
      obtain ⟨_, _, x, y, w, e, _⟩ := s.src n q
      rw [← z, q1] at e; cases e
  · rw [hs] at hi
    obtain ⟨v, w1, o', ys, r1, r2, r3, r4, _⟩ := s.slot i _ hi
    rw [z] at w1
    cases w1
    cases r1
    rw [q1] at r4; cases r4
end
section
variable {X : Cx} {k : Nat} {f : Addr} {fd : FuncData} {ps : List Str} {fs : FSp} {x : Str} {p pos : Pos} {e : Expr} {es : List Expr} {tr : DA} {np : Nat} {E : XK} {CX : CXT}
theorem lift_core : ∀ σ H Q, up X.K (dCall np fs tr) σ H Q → upA X.K tr σ H fun vs H1 => lift X.K np fs vs H1 Q E := fun σ H Q q => by
  obtain ⟨c, g, tv, tr, F, ad, post, s, t, k⟩ := q
  refine ⟨c, g, tv, tr, F, ad, _, s, t, fun rs g1 vs H1 F1 a1 t1 s1 hl => ?_⟩
  obtain ⟨hn, t1⟩ := t1
  rw [← hl] at hn
  obtain ⟨m1, m2⟩ := s1.tmp.args hl
  have s2 := s1.pop m2
  cases q : hasSrc rs with
  | true =>
    rw [q] at t1
    have hf := m1.fu_ne q
    refine ⟨F1, a1, rs, g1.fu, _, s1.eh, m1, hn, fun n h => ⟨(s1.src n h).1, (s1.src n h).2.2⟩, s1.tabk, t1, fun r fu' v H' F' hp o => ?_⟩
    have s3 := s2.after1 hf o
    cases r with
    | exc _ _ => exact o.rep.elim
    | val d => exact k _ _ v H' F' a1 hp (s3.push (r := .val d) o.rep)
    | own ds =>
      obtain ⟨F'', s4⟩ := s3.still (NewL.of (g' := { g1 with fu := fu' }) s2 rfl (fun _ => hf) o.rep)
      exact k _ _ v H' F'' a1 hp s4
  | false =>
    rw [q] at t1
    refine ⟨F1, a1, rs, none, _, s1.eh, m1.noSrc q, hn, fun n h => by (cases h), s1.tabk, t1, fun r fu' v H' F' hp o => ?_⟩
    have s3 := s2.after0 o
    cases r with
    | exc _ _ => exact o.rep.elim
    | val d => exact k _ _ v H' F' a1 hp (s3.push (r := .val d) o.rep)
    | own ds =>
      obtain ⟨F'', s4⟩ := s3.still (NewL.of s2 rfl id o.rep)
      exact k _ _ v H' F'' a1 hp s4
theorem liftL_core : ∀ σ H Q, upL X.K (dCallL np fs tr) σ H Q → upA X.K tr σ H fun vs H1 => lift X.K np fs vs H1 Q E := fun σ H Q q => by
  obtain ⟨c, g, tv, tr, F, ad, post, s, t, k⟩ := q
  refine ⟨c, g, tv, tr, F, ad, _, s, t, fun rs g1 vs H1 F1 a1 t1 s1 hl => ?_⟩
  obtain ⟨hn, t1⟩ := t1
  rw [← hl] at hn
  obtain ⟨m1, m2⟩ := s1.tmp.args hl
  have s2 := s1.pop m2
  cases q : hasSrc rs with
  | true =>
    rw [q] at t1
    have hf := m1.fu_ne q
    refine ⟨F1, a1, rs, g1.fu, _, s1.eh, m1, hn, fun n h => ⟨(s1.src n h).1, (s1.src n h).2.2⟩, s1.tabk, t1, fun r fu' v H' F' hp o => ?_⟩
    have s3 := s2.after1 hf o
    cases r with
    | exc _ _ => exact hp.elim
    | val d => exact hp.elim
    | own ds => exact k _ _ v H' F' a1 hp s3 (NewL.of (g' := { g1 with fu := fu' }) s2 rfl (fun _ => hf) o.rep)
  | false =>
    rw [q] at t1
    refine ⟨F1, a1, rs, none, _, s1.eh, m1.noSrc q, hn, fun n h => by (cases h), s1.tabk, t1, fun r fu' v H' F' hp o => ?_⟩
    have s3 := s2.after0 o
    cases r with
    | exc _ _ => exact hp.elim
    | val d => exact hp.elim
    | own ds => exact k _ _ v H' F' a1 hp s3 (NewL.of s2 rfl id o.rep)
theorem e_call (G : Fn X.prog X.w X.K X.mg X.base CX k f fd ps (lift X.K np fs)) (hr : Room k X.A) (hgd : X.A.guards = some []) (hg : Gl X x) (hm : X.mg x = some (.ref f)) (hk : PySem.W.keepIn X.K (.ref f) = true) (hb : Binds X.K fd ps []) (hx : Passes CX X E)
    (ha : PA X (e :: es) (upA X.K tr)) (hdb : (x == ("__debug__" : Str)) = false := by decide) (he : starEach (e :: es) X.env = (false, eval e X.env) :: starEach es X.env := by rfl) (hpl : (backTo pos (starEach es X.env)).any (·.1) = false := by rfl) :
    PE X (.Call (.Name x p) (e :: es) [] pos) (up X.K (dCall np fs tr)) := pe_to (pe_fn G hr hgd hg hm hk hb hx ha hdb he hpl) lift_core
theorem e_callL (G : Fn X.prog X.w X.K X.mg X.base CX k f fd ps (lift X.K np fs)) (hr : Room k X.A) (hgd : X.A.guards = some []) (hg : Gl X x) (hm : X.mg x = some (.ref f)) (hk : PySem.W.keepIn X.K (.ref f) = true) (hb : Binds X.K fd ps []) (hx : Passes CX X E)
    (ha : PA X (e :: es) (upA X.K tr)) (hdb : (x == ("__debug__" : Str)) = false := by decide) (he : starEach (e :: es) X.env = (false, eval e X.env) :: starEach es X.env := by rfl) (hpl : (backTo pos (starEach es X.env)).any (·.1) = false := by rfl) :
    PE X (.Call (.Name x p) (e :: es) [] pos) (upL X.K (dCallL np fs tr)) := pe_to (pe_fn G hr hgd hg hm hk hb hx ha hdb he hpl) liftL_core
end
end Z
namespace Z
open L2 PySem PySem.Spec PyProof.Rows
open Evl (Ex ex_l ex_t ex_rd fresh_back)
variable {Wx : WX}
def rsv : Rv → Sv
  | .val d => .val d
  | .src => .src
  | .scr ns => .scr ns
  | .ob k => .ob k
section
variable {K : Fg} {c : Con} {g : Gs} {σ : L2.St} {H F : Hp} {tv : List V} {tr : List Rv} {a : Addr}
theorem set_some {α : Type} {l : List α} {i j : Nat} {x y : α} (h : (l.set i x)[j]? = some y) : (j = i ∧ j < l.length ∧ y = x) ∨ (j ≠ i ∧ l[j]? = some y) := by
  by_cases e : j = i
  · subst e
    have hl : j < (l.set j x).length := (List.getElem?_eq_some_iff.mp h).1
    rw [List.length_set] at hl
    rw [List.getElem?_set_self hl] at h
    cases h
    exact .inl ⟨rfl, hl, rfl⟩
  · rw [List.getElem?_set_ne (Ne.symm e)] at h
    exact .inr ⟨e, h⟩
theorem Sta.set {v : V} {r : Rv} (s : Sta K c g σ H (v :: tv) (r :: tr) F a) (i : Nat) : Sta K c (g.set i (rsv r)) (σ.set i (some v)) H tv tr F a := by
  have hr := s.top
  have s0 := s.pop1
  refine ⟨s0.e0, s0.eh, s0.keep, s0.new, s0.ex, s0.ow, s0.src, s0.tmp, ?_, fun j sv hj => ?_, fun j k ds es hjk hj hk => ?_, s0.t0, s0.tab⟩
  · show (σ.set i _).length = (g.sl.set i _).length
    rw [List.length_set, List.length_set]; exact s0.len
  · rcases set_some (show (g.sl.set i (some (rsv r)))[j]? = some (some sv) from hj) with ⟨rfl, hl, e⟩ | ⟨ne, e⟩
    · cases e
      refine ⟨v, List.getElem?_set_self (by rw [s0.len]; exact hl), ?_⟩
      cases r with
      | val d => exact hr
      | src => exact hr
      | scr ns => exact hr
      | ob k => exact hr
    · obtain ⟨w, h1, h2⟩ := s0.slot j sv e
      exact ⟨w, by rw [List.getElem?_set_ne (Ne.symm ne)]; exact h1, h2⟩
  · have no : ∀ k fs, (g.sl.set i (some (rsv r)))[k]? = some (some (Sv.own fs)) → k ≠ i ∧ g.sl[k]? = some (some (Sv.own fs)) := fun k fs h => by
      rcases set_some h with ⟨_, _, e⟩ | z
      · cases r <;> cases e
      · exact z
    obtain ⟨n1, e1⟩ := no j ds hj
    obtain ⟨n2, e2⟩ := no k es hk
    rw [List.getElem?_set_ne (Ne.symm n1), List.getElem?_set_ne (Ne.symm n2)]
    exact s0.dis j k ds es hjk e1 e2
theorem Sta.setOwn (s : Sta K c g σ H tv tr F a) {v : V} {ds : List Da} (h : NewL K c g σ H F a v ds) (i : Nat) : Sta K c (g.set i (.own ds)) (σ.set i (some v)) H tv tr F a := by
  obtain ⟨o, xs, rfl, q2, q3, q4, q5, q6, q7⟩ := h.ex
  refine ⟨s.e0, s.eh, s.keep, s.new, s.ex, s.ow, s.src, s.tmp, ?_, fun j sv hj => ?_, fun j k es fs hjk hj hk => ?_, s.t0, s.tab⟩
  · show (σ.set i _).length = (g.sl.set i _).length
    rw [List.length_set, List.length_set]; exact s.len
  · rcases set_some (show (g.sl.set i (some (Sv.own ds)))[j]? = some (some sv) from hj) with ⟨rfl, hl, e⟩ | ⟨ne, e⟩
    · cases e
      exact ⟨_, List.getElem?_set_self (by rw [s.len]; exact hl), o, xs, rfl, q2, q3, q4, q5, q6⟩
    · obtain ⟨w, h1, h2⟩ := s.slot j sv e
      exact ⟨w, by rw [List.getElem?_set_ne (Ne.symm ne)]; exact h1, h2⟩
  · rcases set_some (show (g.sl.set i (some (Sv.own ds)))[j]? = some (some (Sv.own es)) from hj) with ⟨rfl, hl, e⟩ | ⟨nj, ej⟩
    · rcases set_some (show (g.sl.set j (some (Sv.own ds)))[k]? = some (some (Sv.own fs)) from hk) with ⟨rfl, _, _⟩ | ⟨nk, ek⟩
      · exact absurd rfl hjk
      · rw [List.getElem?_set_self (by rw [s.len]; exact hl), List.getElem?_set_ne (Ne.symm nk)]
        exact fun z => q7 k fs ek z.symm
    · rcases set_some (show (g.sl.set i (some (Sv.own ds)))[k]? = some (some (Sv.own fs)) from hk) with ⟨rfl, hl, _⟩ | ⟨nk, ek⟩
      · rw [List.getElem?_set_self (by rw [s.len]; exact hl), List.getElem?_set_ne (Ne.symm nj)]
        exact q7 j es ej
      · rw [List.getElem?_set_ne (Ne.symm nj), List.getElem?_set_ne (Ne.symm nk)]
        exact s.dis j k es fs hjk ej ek
/-- an own list changes -/
theorem Sta.mut (s : Sta K c g σ H tv tr F a) {i : Nat} {o : Addr} {ds es : List Da} {ys : List V} (h : g.sl[i]? = some (some (.own ds))) (ho : σ[i]? = some (some (.ref o))) (hy : Rps K F ys es) :
    Sta K c (g.set i (.own es)) σ (upd H o (.lst ys)) tv tr F a := by
  obtain ⟨v, h1, o', xs, rfl, q2, q3, q4, q5, q6⟩ := s.slot i _ h
  rw [ho] at h1
  cases h1
  have hi : i < g.sl.length := (List.getElem?_eq_some_iff.mp h).1
  refine ⟨s.e0, fun b u q => ?_, fun b u z1 hn z2 => ?_, s.new, s.ex, s.ow, fun n hn => ?_, s.tmp, ?_, fun j sv hj => ?_, fun j k e1 e2 hjk hj hk => ?_, s.t0.but q4 (fun _ z => by cases z) fun b u ne h => by rw [upd_ne ne]; exact h, s.tab.trans (.but q4 (fun _ z => by cases z) fun b u ne h => by rw [upd_ne ne]; exact h)⟩
  · have nb : b ≠ o := fun z => by rw [z, q2] at q; cases q
    rw [upd_ne nb]; exact s.eh b u q
  · have nb : b ≠ o := fun z => by rw [z, q3] at z2; cases z2
    rw [upd_ne nb]; exact s.keep b u z1 hn z2
  · obtain ⟨z1, z2, x, y, z, e, z3⟩ := s.src n hn
    exact ⟨z1, z2, x, y, z, by rw [upd_ne (fun w => q6 (ne_none hn) w.symm)]; exact e, z3⟩
  · show σ.length = (g.sl.set i _).length
    rw [List.length_set]; exact s.len
  · rcases set_some (show (g.sl.set i (some (Sv.own es)))[j]? = some (some sv) from hj) with ⟨rfl, hl, e⟩ | ⟨ne, e⟩
    · cases e
      exact ⟨_, ho, o, ys, rfl, q2, q3, upd_same, hy, q6⟩
    · obtain ⟨w, h1, h2⟩ := s.slot j sv e
      refine ⟨w, h1, ?_⟩
      cases sv with
      | val d => exact h2
      | src => exact h2
      | scr ns => exact h2
      | ob k => exact h2
      | own fs =>
        obtain ⟨p, zs, r1, r2, r3, r4, r5, r6⟩ := h2
        have np : p ≠ o := fun z => s.dis j i fs ds ne e h (by rw [h1, ho, r1, z])
        exact ⟨p, zs, r1, r2, r3, by rw [upd_ne np]; exact r4, r5, r6⟩
  · have back : ∀ k e, (g.sl.set i (some (Sv.own es)))[k]? = some (some (Sv.own e)) → ∃ e', g.sl[k]? = some (some (Sv.own e')) := fun k e hk => by
      rcases set_some hk with ⟨rfl, _, _⟩ | ⟨_, z⟩
      · exact ⟨_, h⟩
      · exact ⟨_, z⟩
    obtain ⟨f1, w1⟩ := back j e1 hj
    obtain ⟨f2, w2⟩ := back k e2 hk
    exact s.dis j k f1 f2 hjk w1 w2
end
abbrev DG := Rv → Gs → (Gs → Prop) → Prop
abbrev DGs := List Da → Gs → (Gs → Prop) → Prop
def upG (K : Fg) (t : DG) : TG := fun v σ H Q => ∃ c g tv tr F a r post, Sta K c g σ H (v :: tv) (r :: tr) F a ∧ t r g post ∧ ∀ g' σ' H' F' a', post g' → Sta K c g' σ' H' tv tr F' a' → Q σ' H'
def upGs (K : Fg) (t : DGs) : TGs := fun vs σ H Q => ∃ c g tv tr F a ds post, Sta K c g σ H (vs ++ tv) (ds.map Rv.val ++ tr) F a ∧ vs.length = ds.length ∧ t ds g post ∧ ∀ g' σ' H' F' a', post g' → Sta K c g' σ' H' tv tr F' a' → Q σ' H'
def dN (i : Nat) : DG := fun r g Q => Q (g.set i (rsv r))
def dT (n : Nat) (t : DGs) : DG := fun r g Q => match r with
  | .val (.tuple ds) => ds.length = n ∧ t ds g Q
  | _ => False
def dTn : DGs := fun ds g Q => match ds with
  | [] => Q g
  | _ => False
def dTc (t : DG) (u : DGs) : DGs := fun ds g Q => match ds with
  | d :: r => t (.val d) g fun g1 => u r g1 Q
  | [] => False
section
variable {X : Cx} {pos : Pos} {e : Expr} {es : List Expr}
theorem pg_to {t t' : TG} (h : PG X e t) (i : ∀ v σ H Q, t' v σ H Q → t v σ H Q) : PG X e t' := ⟨fun pins s v u σ H Q I r q => h.run pins s v u σ H Q I r (i _ _ _ _ q)⟩
theorem pgs_to {t t' : TGs} (h : PGs X es t) (i : ∀ v σ H Q, t' v σ H Q → t v σ H Q) : PGs X es t' := ⟨fun pins s v u σ H Q I r q => h.run pins s v u σ H Q I r (i _ _ _ _ q)⟩
theorem Tm.ofRps {K : Fg} {F : Hp} {a : Addr} {fu : Option Nat} : ∀ {vs : List V} {ds : List Da}, Rps K F vs ds → Tm K F a fu vs (ds.map Rv.val)
  | _, _, .nil => .nil
  | _, _, .cons h t => .cons h (Tm.ofRps t)
theorem g_name {i : Nat} (h : PG X e (gName i)) : PG X e (upG X.K (dN i)) := pg_to h fun v σ H Q q => by
  obtain ⟨c, g, tv, tr, F, a, r, post, s, t, k⟩ := q
  exact k _ _ H F a t (s.set i)
theorem gs_nil : PGs X [] (upGs X.K dTn) := pgs_to pgs_nil fun vs σ H Q q => by
  obtain ⟨c, g, tv, tr, F, a, ds, post, s, hl, t, k⟩ := q
  cases ds with
  | nil =>
    have : vs = [] := List.length_eq_zero_iff.mp hl
    subst this
    exact ⟨rfl, k _ _ H F a t s⟩
  | cons d r => exact t.elim
theorem gs_cons {t : DG} {u : DGs} (h : PG X e (upG X.K t)) (hr : PGs X es (upGs X.K u)) (hs : (assignEach (e :: es) X.env).map (·.2) = assign e X.env :: (assignEach es X.env).map (·.2) := by rfl) : PGs X (e :: es) (upGs X.K (dTc t u)) := pgs_to (pgs_cons h hr hs) fun vs σ H Q q => by
  obtain ⟨c, g, tv, tr, F, a, ds, post, s, hl, t, k⟩ := q
  cases ds with
  | nil => exact t.elim
  | cons d r =>
    cases vs with
    | nil => simp at hl
    | cons v vs =>
      refine ⟨v, vs, rfl, c, g, _, _, F, a, _, _, s, t, fun g1 σ1 H1 F1 a1 t1 s1 => ?_⟩
      exact ⟨c, g1, tv, tr, F1, a1, r, _, s1, by simpa using hl, t1, k⟩
theorem g_tup {n k : Nat} {t : DGs} (hc : X.calm = true) (h : PGs X es (upGs X.K t)) (hn : (assignEach es X.env).length = n := by rfl) (hf : List.findIdx? (fun x => x.1) (assignEach es X.env) = none := by rfl) : PG X (.Tuple es k pos) (upG X.K (dT n t)) :=
  pg_to (pg_tup hc h hn hf) fun v σ H Q q => by
  obtain ⟨c, g, tv, tr, F, a, r, post, s, t, k⟩ := q
  cases r with
  | val d =>
    cases d with
    | tuple ds =>
      have hr : Rp X.K F v (.tuple ds) := s.top
      cases hr with
      | tup sq m =>
        refine ⟨_, _, rfl, ex_t s.eh sq, by rw [m.len]; exact t.1, c, g, tv, tr, F, a, ds, post, s.pop ((Tm.ofRps m).app s.pop1.tmp), m.len, t.2, k⟩
    | _ => exact t.elim
  | _ => exact t.elim
end
def dAsg (te : DE) (t : DG) : DS := fun d g => te g fun r g1 => t r g1 d.nx
def dSetL (i : Nat) (tl : DL) : DS := fun d g => tl g fun ds g1 => d.nx (g1.set i (.own ds))
def dSeq (t u : DS) : DS := fun d g => t { d with nx := u d } g
def dNext : DS := fun d g => d.nx g
def dIfS (c : DT) (t u : DS) : DS := fun d g => c g fun b g1 => (b = true → t d g1) ∧ (b = false → u d g1)
def dRet (te : DE) : DS := fun d g => te g fun r g1 => match r with
  | .val x => d.rt (.val x) g1
  | _ => False
def dRetL (tl : DL) : DS := fun d g => tl g fun ds g1 => d.rt (.own ds) g1
def dDrop (te : DE) : DS := fun d g => te g fun _ g1 => d.nx g1
def dNever : DS := fun _ _ => False
def dAug (i : Nat) (f : BinF) (te : DE) : DS := fun d g => match g.sl[i]? with
  | some (some (.val x)) => te g fun r g1 => match r with
    | .val y => f x y fun z => d.nx (g1.set i (.val z))
    | _ => False
  | _ => False
def dPar (i j : Nat) (ta tb : DE) : DS := fun d g => ta g fun r g1 => tb g1 fun s g2 => d.nx ((g2.set i (rsv r)).set j (rsv s))
/-- a, b = [..], constant -/
def dParL (i j : Nat) (tl : DL) (x : Da) : DS := fun d g => tl g fun ds g1 => d.nx ((g1.set i (.own ds)).set j (.val x))
def dApp (i : Nat) (te : DE) : DS := fun d g => (∃ ds, g.sl[i]? = some (some (.own ds))) ∧ te g fun r g1 => match r with
  | .val z => (match g1.sl[i]? with
    | some (some (.own ds)) => ds.length < 1000000 ∧ d.nx (g1.set i (.own (ds ++ [z])))
    | _ => False)
  | _ => False
def dWhile (c : DT) (tb : DS) : DS := fun d g => ∃ W : Nat → Gs → Prop, (∃ m, W m g) ∧ ∀ m g, W m g → c g fun b g1 =>
  (b = true → tb { d with nx := fun g2 => ∃ m', m' < m ∧ W m' g2, ct := fun g2 => ∃ m', m' < m ∧ W m' g2, bk := d.nx } g1) ∧ (b = false → d.nx g1)
section
variable {X : Cx} {pos : Pos} {e tg : Expr} {te : DE} {tl : DL}
theorem s_asg {t : DG} (he : PE X e (up X.K te)) (hg : PG X tg (upG X.K t)) (h1 : swapsWithSole [tg] e pos.line X.env = pure false := by rfl) (h2 : swappedStores [tg] e X.env = pure none := by rfl) (h3 : (assignEach [tg] X.env).map (·.2) = [assign tg X.env] := by rfl) :
    PS X (.Assign [tg] e pos) (upS X.K Wx (dAsg te t)) := ps_to (ps_asg he hg h1 h2 h3) fun D σ H q => by
  obtain ⟨c, g, tv, tr, F, a, d, s, hn, t, k⟩ := q
  refine ⟨c, g, tv, tr, F, a, _, s, t, fun r g1 v H1 F1 a1 t1 s1 => ?_⟩
  exact ⟨c, g1, tv, tr, F1, a1, r, _, s1, t1, fun g2 σ2 H2 F2 a2 t2 s2 => k.nx g2 σ2 H2 F2 a2 t2 s2⟩
theorem s_set {i : Nat} {x : Str} {pos' : Pos} (hN : X.N.Nodup) (hi : X.N[i]? = some x) (hx : L2.Loc X.env.scope x) (he : PE X e (up X.K te)) (h1 : swapsWith e (some (.Name x pos')) pos.line X.env = pure false := by rfl)
    (hf : X.fn x = true ∨ X.env.scope.names.lookup x = some .local := by first | exact .inl rfl | exact .inr rfl) : PS X (.Assign [.Name x pos'] e pos) (upS X.K Wx (dAsg te (dN i))) := ps_to (ps_set hN hi hx he h1 hf) fun D σ H q => by
  obtain ⟨c, g, tv, tr, F, a, d, s, hn, t, k⟩ := q
  exact ⟨c, g, tv, tr, F, a, _, s, t, fun r g1 v H1 F1 a1 t1 s1 => k.nx _ _ H1 F1 a1 t1 (s1.set i)⟩
theorem s_setL {i : Nat} {x : Str} {pos' : Pos} (hN : X.N.Nodup) (hi : X.N[i]? = some x) (hx : L2.Loc X.env.scope x) (he : PE X e (upL X.K tl)) (h1 : swapsWith e (some (.Name x pos')) pos.line X.env = pure false := by rfl)
    (hf : X.fn x = true ∨ X.env.scope.names.lookup x = some .local := by first | exact .inl rfl | exact .inr rfl) : PS X (.Assign [.Name x pos'] e pos) (upS X.K Wx (dSetL i tl)) := ps_to (ps_set hN hi hx he h1 hf) fun D σ H q => by
  obtain ⟨c, g, tv, tr, F, a, d, s, hn, t, k⟩ := q
  exact ⟨c, g, tv, tr, F, a, _, s, t, fun ds g1 v H1 F1 a1 t1 s1 n1 => k.nx _ _ H1 F1 a1 t1 (s1.setOwn n1 i)⟩
variable {st : Stmt} {rest body : List Stmt} {t u : DS} {ct : DT}
theorem ss_nil : PSs X [] (upS X.K Wx dNext) := pss_to pss_nil fun D σ H q => by
  obtain ⟨c, g, tv, tr, F, a, d, s, hn, t, k⟩ := q
  exact k.nx g σ H F a t s
theorem DD.seq {K : Fg} {Wx : WX} {c : Con} {tv : List V} {tr : List Rv} {d : DEnds} {D : Ends} (k : DD K Wx c tv tr d D) {N : Gs → Prop} {M : L2.St → Hp → Prop} (h : ∀ g σ H F a, N g → Sta K c g σ H tv tr F a → M σ H) : DD K Wx c tv tr { d with nx := N } { D with nx := M } :=
  ⟨h, k.bk, k.ct, k.rv, k.ro, k.rx⟩
theorem ss_cons (h1 : PS X st (upS X.K Wx t)) (h2 : PSs X rest (upS X.K Wx u)) : PSs X (st :: rest) (upS X.K Wx (dSeq t u)) := pss_to (pss_cons h1 h2) fun D σ H q => by
  obtain ⟨c, g, tv, tr, F, a, d, s, hn, t, k⟩ := q
  exact ⟨c, g, tv, tr, F, a, _, s, hn, t, k.seq fun g1 σ1 H1 F1 a1 t1 s1 => ⟨c, g1, tv, tr, F1, a1, d, s1, hn, t1, k⟩⟩
theorem ss_one (h1 : PS X st (upS X.K Wx t)) : PSs X [st] (upS X.K Wx t) := pss_one h1
theorem s_if {c : Expr} {a b : List Stmt} (hc : PT X c (upT X.K ct)) (h1 : PSs X a (upS X.K Wx t)) (h2 : PSs X b (upS X.K Wx u)) : PS X (.If c a b pos) (upS X.K Wx (dIfS ct t u)) := ps_to (ps_if hc h1 h2) fun D σ H q => by
  obtain ⟨c, g, tv, tr, F, a, d, s, hn, t, k⟩ := q
  refine ⟨c, g, tv, tr, F, a, _, s, t, fun b g1 H1 F1 a1 t1 s1 => ?_⟩
  cases b with
  | true => rw [if_pos rfl]; exact ⟨c, g1, tv, tr, F1, a1, d, s1, hn, t1.1 rfl, k⟩
  | false => rw [if_neg Bool.false_ne_true]; exact ⟨c, g1, tv, tr, F1, a1, d, s1, hn, t1.2 rfl, k⟩
theorem s_ret (he : PE X e (up X.K te)) : PS X (.Return (some e) pos) (upS X.K Wx (dRet te)) := ps_to (ps_ret he) fun D σ H q => by
  obtain ⟨c, g, tv, tr, F, a, d, s, hn, t, k⟩ := q
  refine ⟨c, g, tv, tr, F, a, _, s, t, fun r g1 v H1 F1 a1 t1 s1 => ?_⟩
  cases r with
  | val x => exact k.rv x g1 σ v H1 F1 a1 t1 s1
  | _ => exact t1.elim
theorem s_retL (he : PE X e (upL X.K tl)) : PS X (.Return (some e) pos) (upS X.K Wx (dRetL tl)) := ps_to (ps_ret he) fun D σ H q => by
  obtain ⟨c, g, tv, tr, F, a, d, s, hn, t, k⟩ := q
  refine ⟨c, g, tv, tr, F, a, _, s, t, fun ds g1 v H1 F1 a1 t1 s1 n1 => ?_⟩
  obtain ⟨o, xs, q1, q2, q3, q4, q5, q6, _⟩ := n1.ex
  exact k.ro ds g1 σ v H1 F1 a1 t1 s1 ⟨o, xs, q1, q2, q3, q4, q5, q6, fun i es h => by simp at h⟩
theorem s_expr (he : PE X e (up X.K te)) (h1 : swapsWith e none pos.line X.env = pure false := by rfl) : PS X (.Expr e pos) (upS X.K Wx (dDrop te)) := ps_to (ps_expr he h1) fun D σ H q => by
  obtain ⟨c, g, tv, tr, F, a, d, s, hn, t, k⟩ := q
  exact ⟨c, g, tv, tr, F, a, _, s, t, fun r g1 v H1 F1 a1 t1 s1 => k.nx g1 σ H1 F1 a1 t1 s1.pop1⟩
theorem s_never : PS X st (upS X.K Wx dNever) := ps_to ps_never fun D σ H q => by
  obtain ⟨c, g, tv, tr, F, a, d, s, hn, t, k⟩ := q
  exact t.elim
theorem s_aug {i : Nat} {x : Str} {pos' : Pos} {op : Operator} {f : BinF} {r : R2} (hN : X.N.Nodup) (hi : X.N[i]? = some x) (hx : L2.Loc X.env.scope x) (he : PE X e (up X.K te)) (ho : OpR X (inplaceOp op) r) (hb : BinOk X.K r f)
    (hf : X.fn x = true ∨ X.env.scope.names.lookup x = some .local := by first | exact .inl rfl | exact .inr rfl) : PS X (.AugAssign (.Name x pos') op e pos) (upS X.K Wx (dAug i f te)) := ps_to (ps_aug (ti := r) hN hi hx he ho hf) fun D σ H q => by
  obtain ⟨c, g, tv, tr, F, a, d, s, hn, t, k⟩ := q
  unfold dAug at t
  split at t
  · rename_i y hy
    obtain ⟨v, h1, h2⟩ := s.slot i _ hy
    refine ⟨v, h1, c, g, v :: tv, .val y :: tr, F, a, _, s.push (r := .val y) h2, t, fun r g1 w H1 F1 a1 t1 s1 => ?_⟩
    cases r with
    | val z =>
      have r1 : Rp X.K F1 v y := s1.pop1.top
      have r2 : Rp X.K F1 w z := s1.top
      exact hb F1 H1 v w y z _ _ s1.eh r1 r2 t1 fun z' v' H' F' hz gr rz => k.nx _ _ H' F' a1 hz (Sta.set (r := .val z') ((s1.pop1.pop1.grow gr).push (r := .val z') rz) i)
    | _ => exact t1.elim
  · exact t.elim
theorem s_par {i j : Nat} {x y : Str} {a b : Expr} {ta tb : DE} {px py pt : Pos} {kt k2 : Nat} {pt2 : Pos} (hc : X.calm = true) (hN : X.N.Nodup) (hi : X.N[i]? = some x) (hj : X.N[j]? = some y) (hij : i ≠ j)
    (hx : X.env.scope.names.lookup x = some .local) (hy : X.env.scope.names.lookup y = some .local) (ha : PE X a (up X.K ta)) (hb : PE X b (up X.K tb))
    (hsw : swappedStores [.Tuple [.Name x px, .Name y py] kt pt] (.Tuple [a, b] k2 pt2) X.env = pure (some [x, y]) := by rfl) (h1 : swapsWithSole [.Tuple [.Name x px, .Name y py] kt pt] (.Tuple [a, b] k2 pt2) pos.line X.env = pure false := by rfl)
    (n1 : starEach [a, b] X.env = (false, eval a X.env) :: starEach [b] X.env := by rfl) (n2 : starEach [b] X.env = (false, eval b X.env) :: starEach [] X.env := by rfl) :
    PS X (.Assign [.Tuple [.Name x px, .Name y py] kt pt] (.Tuple [a, b] k2 pt2) pos) (upS X.K Wx (dPar i j ta tb)) := ps_to (ps_par hc hN hi hj hij hx hy (a_cons ha (a_cons hb a_nil n2) n1) hsw h1) fun D σ H q => by
  obtain ⟨c, g, tv, tr, F, a, d, s, hn, t, k⟩ := q
  refine ⟨c, g, tv, tr, F, a, fun rs g1 => match rs with | [r, s] => d.nx ((g1.set i (rsv r)).set j (rsv s)) | _ => False, s, t, fun rs g1 vs H1 F1 a1 t1 s1 hl => ?_⟩
  match rs, t1, vs, hl, s1 with
  | [r, s'], t1, [v, w], _, s1 =>
    refine ⟨v, w, rfl, k.nx _ _ H1 F1 a1 t1 ?_⟩
    have s2 : Sta X.K c g1 σ H1 (v :: w :: tv) (r :: s' :: tr) F1 a1 := by
      have e1 : Sta X.K c g1 σ H1 (w :: v :: tv) (s' :: r :: tr) F1 a1 := s1
      exact e1.pop (.cons e1.pop1.top (.cons e1.top e1.pop1.pop1.tmp))
    exact (s2.set i).set j
theorem s_parL {i j : Nat} {x y : Str} {a b : Expr} {tl : DL} {v : V} {z : Da} {px py pt : Pos} {kt k2 : Nat} {pt2 : Pos} (hc : X.calm = true) (hN : X.N.Nodup) (hi : X.N[i]? = some x) (hj : X.N[j]? = some y) (hij : i ≠ j)
    (hx : X.env.scope.names.lookup x = some .local) (hy : X.env.scope.names.lookup y = some .local) (ha : PE X a (upL X.K tl)) (hb : PE X b (tC v)) (hv : ∀ F, Rp X.K F v z)
    (hsw : swappedStores [.Tuple [.Name x px, .Name y py] kt pt] (.Tuple [a, b] k2 pt2) X.env = pure (some [x, y]) := by rfl) (h1 : swapsWithSole [.Tuple [.Name x px, .Name y py] kt pt] (.Tuple [a, b] k2 pt2) pos.line X.env = pure false := by rfl)
    (n1 : starEach [a, b] X.env = (false, eval a X.env) :: starEach [b] X.env := by rfl) (n2 : starEach [b] X.env = (false, eval b X.env) :: starEach [] X.env := by rfl) :
    PS X (.Assign [.Tuple [.Name x px, .Name y py] kt pt] (.Tuple [a, b] k2 pt2) pos) (upS X.K Wx (dParL i j tl z)) := ps_to (ps_par hc hN hi hj hij hx hy (pa_cons ha (pa_cons hb pa_nil n2) n1) hsw h1) fun D σ H q => by
  obtain ⟨c, g, tv, tr, F, a, d, s, hn, t, k⟩ := q
  refine ⟨c, g, tv, tr, F, a, _, s, t, fun ds g1 w H1 F1 a1 t1 s1 n1 => ?_⟩
  refine ⟨w, v, rfl, k.nx _ _ H1 F1 a1 t1 ?_⟩
  exact Sta.set (r := .val z) ((s1.setOwn n1 i).push (r := .val z) (hv F1)) j
/-- x.append(e), x an own list -/
theorem s_app {i : Nat} {o : Expr} {apos cpos : Pos} {name : Str} (hv : PE X o (tVar i)) (he : PE X e (up X.K te))
    (hp : ∀ {t : TA} , PA X [e] t → PE X (.Call (.Attribute o "append" apos) [e] [] cpos) (tBM X.K "list" rAppend (tVar i) t)) (n1 : starEach [e] X.env = (false, eval e X.env) :: starEach [] X.env := by rfl)
    (h1 : swapsWith (.Call (.Attribute o "append" apos) [e] [] cpos) none pos.line X.env = pure false := by rfl) : PS X (.Expr (.Call (.Attribute o "append" apos) [e] [] cpos) pos) (upS X.K Wx (dApp i te)) := ps_to (ps_expr (hp (pa_cons he pa_nil n1)) h1) fun D σ H q => by
  obtain ⟨c, g, tv, tr, F, a, d, s, hn, ⟨⟨ds, hd⟩, t⟩, k⟩ := q
  obtain ⟨v, h1, o, xs, rfl, q2, q3, q4, q5, q6⟩ := s.slot i _ hd
  refine ⟨_, h1, .inl ⟨rfl, xs, .inl (.inl q4)⟩, c, g, tv, tr, F, a, _, s, t, fun r g1 w H1 F1 a1 t1 s1 => ?_⟩
  cases r with
  | val z =>
    simp only at t1
    split at t1
    · rename_i es he
      obtain ⟨v', h1', o', ys, rfl, p2, p3, p4, p5, p6⟩ := s1.slot i _ he
      rw [h1] at h1'
      cases h1'
      refine ⟨o, ys, w, rfl, rfl, p4, by rw [p5.len]; exact Nat.lt_of_lt_of_le t1.1 (by decide), k.nx _ _ _ F1 a1 t1.2 (s1.pop1.mut he h1 (p5.app (.cons s1.top .nil)))⟩
    · exact t1.elim
  | _ => exact t1.elim
theorem s_while {c : Expr} (hp : PassesOwn (model X.prog X.w) X.A X.env X.xe) (hc : PT X c (upT X.K ct)) (hb : PSs X body (upS X.K Wx t)) : PS X (.While c body [] pos) (upS X.K Wx (dWhile ct t)) := ps_to (ps_while hp hc hb) fun D σ H q => by
  obtain ⟨c, g, tv, tr, F, a, d, s, hn, ⟨W, ⟨m, hm⟩, hw⟩, k⟩ := q
  refine ⟨fun m σ H => ∃ g F a, Sta X.K c g σ H tv tr F a ∧ W m g, ⟨m, g, F, a, s, hm⟩, fun m σ H hW => ?_⟩
  obtain ⟨g, F, a, s, hm⟩ := hW
  refine ⟨c, g, tv, tr, F, a, _, s, hw m g hm, fun b g1 H1 F1 a1 t1 s1 => ?_⟩
  cases b with
  | true =>
    rw [if_pos rfl]
    refine ⟨fun σ H => ∃ m', m' < m ∧ ∃ g F a, Sta X.K c g σ H tv tr F a ∧ W m' g, fun σ' H' h => h, c, g1, tv, tr, F1, a1, _, s1, hn, t1.1 rfl, ⟨fun g2 σ2 H2 F2 a2 ⟨m', h1, h2⟩ s2 => ⟨m', h1, g2, F2, a2, s2, h2⟩, k.nx, fun g2 σ2 H2 F2 a2 ⟨m', h1, h2⟩ s2 => ⟨m', h1, g2, F2, a2, s2, h2⟩, k.rv, k.ro, k.rx⟩⟩
  | false =>
    rw [if_neg Bool.false_ne_true]
    exact k.nx g1 σ H1 F1 a1 (t1.2 rfl) s1
end
end Z
namespace Z
open L2 PySem PySem.Spec PyProof.Rows
open Evl (Ex ex_l ex_t ex_rd fresh_back)
variable {Wx : WX}
structure WalkD (K : Fg) (J : It) (ds : List Da) (wv : List V) (wr : List Rv) : Prop where
  goes : ∀ (i : Nat) (F H : Hp) (a : Addr) (fu : Option Nat), Ex F H → Tm K F a fu wv wr → i < ds.length → J.go i H
  stops : ∀ (F H : Hp) (a : Addr) (fu : Option Nat), Ex F H → Tm K F a fu wv wr → J.stop ds.length H
  yields : ∀ (i : Nat) (F H : Hp) (a : Addr) (fu : Option Nat) (x : V) (H' : Hp), Ex F H → Tm K F a fu wv wr → i < ds.length → J.yld i H x H' → ∃ F' d, ds[i]? = some d ∧ Gr F H F' H' ∧ Rp K F' x d
theorem WalkD.walk {K : Fg} {J : It} {ds : List Da} {wv : List V} {wr : List Rv} (w : WalkD K J ds wv wr) : Walk J ds.length (fun H => ∃ F a fu, Ex F H ∧ Tm K F a fu wv wr) J.yld :=
  ⟨fun i H hi ⟨F, a, fu, e, t⟩ => w.goes i F H a fu e t hi, fun H ⟨F, a, fu, e, t⟩ => w.stops F H a fu e t, fun i H x H' hi _ y => y⟩
abbrev DW := Gs → (List Da → Gs → Prop) → Prop
def upI (K : Fg) (tw : DW) : TI := fun σ H R => ∃ c g tv tr F a post, Sta K c g σ H tv tr F a ∧ tw g post ∧
  ∀ ds g' H' F' a' J wv wr, post ds g' → Sta K c g' σ H' (wv ++ tv) (wr ++ tr) F' a' → wv.length = wr.length → hasSrc wr = false → WalkD K J ds wv wr → R J H'
def forD (t : DG) (tb : DS) : List Da → DS
  | [], d, g => d.nx g
  | x :: xs, d, g => t (.val x) g fun g1 => tb { d with nx := forD t tb xs d, ct := forD t tb xs d, bk := d.nx } g1
def dFor (tw : DW) (t : DG) (tb : DS) : DS := fun d g => tw g fun ds g1 => forD t tb ds d g1
theorem drop_at {α : Type} {l : List α} {i : Nat} {x : α} (h : l[i]? = some x) : l.drop i = x :: l.drop (i + 1) := by
  obtain ⟨hi, e⟩ := List.getElem?_eq_some_iff.mp h
  rw [List.drop_eq_getElem_cons hi, e]
section
variable {X : Cx} {tg iter : Expr} {body : List Stmt} {tw : DW} {t : DG} {tb : DS} {pos : Pos}
theorem s_for (hp : PassesOwn (model X.prog X.w) X.A X.env X.xe) (hc : X.calm = true) (hi : PI X tg iter (upI X.K tw)) (hg : PG X tg (upG X.K t)) (hb : PSs X body (upS X.K Wx tb)) (hfs : ∀ x, foldedSetIterable iter X.env x = pure x := by intro _; rfl) :
    PS X (.For tg iter body [] pos) (upS X.K Wx (dFor tw t tb)) := ps_to (ps_for hp hc hi hg hb hfs) fun D σ H q => by
  obtain ⟨c, g, tv, tr, F, a, d, s, hn, q, k⟩ := q
  refine ⟨c, g, tv, tr, F, a, _, s, q, fun ds g' H' F' a' J wv wr hf s' hl hw wd => ?_⟩
  have w := wd.walk
  have sp : ∀ {g : Gs} {σ : L2.St} {H F : Hp} {a : Addr}, Sta X.K c g σ H (wv ++ tv) (wr ++ tr) F a → Tm X.K F a g.fu wv wr ∧ Tm X.K F a g.fu tv tr := fun s => Tm.split hl s.tmp
  refine for_it w (fun i σ H => ∃ g F a, Sta X.K c g σ H (wv ++ tv) (wr ++ tr) F a ∧ forD t tb (ds.drop i) d g) ⟨g', F', a', s', hf⟩ (fun i σ H hi p => ?_) (fun i x σ H H' hi p y => ?_) (fun σ H p => ?_)
  · obtain ⟨g, F, a, s, _⟩ := p
    exact ⟨F, a, g.fu, s.eh, (sp s).1⟩
  · obtain ⟨g, F, a, s, f⟩ := p
    obtain ⟨F2, dx, e1, gr, rx⟩ := wd.yields i F H a g.fu x H' s.eh (sp s).1 hi y
    rw [drop_at e1] at f
    refine ⟨c, g, wv ++ tv, wr ++ tr, F2, a, .val dx, _, (s.grow gr).push (r := .val dx) rx, f, fun g1 σ1 H1 F1 a1 t1 s1 => ?_⟩
    refine ⟨c, g1, wv ++ tv, wr ++ tr, F1, a1, _, s1, hasSrc_app hw hn, t1, ⟨fun g2 σ2 H2 F2 a2 h s2 => ⟨g2, F2, a2, s2, h⟩, fun g2 σ2 H2 F2 a2 h s2 => k.nx g2 σ2 H2 F2 a2 h (s2.pop (sp s2).2), fun g2 σ2 H2 F2 a2 h s2 => ⟨g2, F2, a2, s2, h⟩, fun x g2 σ2 v H2 F2 a2 h s2 => ?_, fun es g2 σ2 v H2 F2 a2 h s2 n2 => ?_, fun nm z g2 σ2 H2 F2 a2 cls dd h s2 ox => k.rx nm z g2 σ2 H2 F2 a2 cls dd h (s2.pop (sp s2).2) ox⟩⟩
    · exact k.rv x g2 σ2 v H2 F2 a2 h ((s2.pop1.pop (sp s2.pop1).2).push (r := .val x) s2.top)
    · exact k.ro es g2 σ2 v H2 F2 a2 h (s2.pop (sp s2).2) n2
  · obtain ⟨g, F, a, s, f⟩ := p
    rw [List.drop_length] at f
    exact k.nx g σ H F a f (s.pop (sp s).2)
end
theorem walkD_list {K : Fg} {p : Addr} {ds : List Da} : WalkD K (Itl K p) ds [.ref p] [.val (.list ds)] := by
  have get : ∀ {F H : Hp} {a : Addr} {fu : Option Nat}, Ex F H → Tm K F a fu [.ref p] [.val (.list ds)] → ∃ xs, SqL K H p xs ∧ Rps K F xs ds := fun {F H a fu} e t => by
    cases t with
    | cons h _ =>
      have h' : Rp K F (.ref p) (.list ds) := h
      cases h' with
      | lst sq m => exact ⟨_, .inl (.inl (e _ _ sq)), m⟩
  refine ⟨fun i F H a fu e t hi => ?_, fun F H a fu e t => ?_, fun i F H a fu x H' e t hi y => ?_⟩
  · obtain ⟨xs, sq, m⟩ := get e t
    obtain ⟨v, h1, _⟩ := m.get (List.getElem?_eq_getElem hi)
    exact ⟨xs, v, sq, h1⟩
  · obtain ⟨xs, sq, m⟩ := get e t
    exact ⟨xs, sq, Nat.le_of_eq m.len⟩
  · obtain ⟨xs, sq, m⟩ := get e t
    obtain ⟨v, h1, h2⟩ := m.get (List.getElem?_eq_getElem hi)
    obtain ⟨rfl, hx⟩ := y
    rw [hx xs sq] at h1
    cases h1
    exact ⟨F, _, List.getElem?_eq_getElem hi, Gr.refl e, h2⟩
theorem walkD_tup {K : Fg} {p : Addr} {ds : List Da} : WalkD K (Itt K p) ds [.ref p] [.val (.tuple ds)] := by
  have get : ∀ {F H : Hp} {a : Addr} {fu : Option Nat}, Ex F H → Tm K F a fu [.ref p] [.val (.tuple ds)] → ∃ xs, SqT K H p xs ∧ Rps K F xs ds := fun {F H a fu} e t => by
    cases t with
    | cons h _ =>
      have h' : Rp K F (.ref p) (.tuple ds) := h
      cases h' with
      | tup sq m => exact ⟨_, ex_t e sq, m⟩
  refine ⟨fun i F H a fu e t hi => ?_, fun F H a fu e t => ?_, fun i F H a fu x H' e t hi y => ?_⟩
  · obtain ⟨xs, sq, m⟩ := get e t
    obtain ⟨v, h1, _⟩ := m.get (List.getElem?_eq_getElem hi)
    exact ⟨xs, v, sq, h1⟩
  · obtain ⟨xs, sq, m⟩ := get e t
    exact ⟨xs, sq, Nat.le_of_eq m.len⟩
  · obtain ⟨xs, sq, m⟩ := get e t
    obtain ⟨v, h1, h2⟩ := m.get (List.getElem?_eq_getElem hi)
    obtain ⟨rfl, hx⟩ := y
    rw [hx xs sq] at h1
    cases h1
    exact ⟨F, _, List.getElem?_eq_getElem hi, Gr.refl e, h2⟩
theorem walkD_scr {K : Fg} {p : Addr} {ns : List Int} : WalkD K (Itl K p) (ns.map PyData.int) [.ref p] [.scr ns] := by
  have get : ∀ {F H : Hp} {a : Addr} {fu : Option Nat}, Ex F H → Tm K F a fu [.ref p] [.scr ns] → SqL K H p (ns.map V.int) := fun {F H a fu} e t => by
    cases t with
    | cons h _ =>
      obtain ⟨b, e1, sq⟩ := h
      cases e1
      exact ex_l e sq
  refine ⟨fun i F H a fu e t hi => ?_, fun F H a fu e t => ?_, fun i F H a fu x H' e t hi y => ?_⟩
  · rw [List.length_map] at hi
    exact ⟨_, _, get e t, by rw [List.getElem?_map, List.getElem?_eq_getElem hi]; rfl⟩
  · exact ⟨_, get e t, by rw [List.length_map, List.length_map]; exact Nat.le_refl _⟩
  · obtain ⟨rfl, hx⟩ := y
    rw [List.length_map] at hi
    have h1 := hx _ (get e t)
    rw [List.getElem?_map, List.getElem?_eq_getElem hi] at h1
    cases h1
    exact ⟨F, .int ns[i], by rw [List.getElem?_map, List.getElem?_eq_getElem hi]; rfl, Gr.refl e, .int _⟩
def dItems (te : DE) : DW := fun g Q => te g fun r g1 => match r with
  | .val (.list ds) => Q ds g1
  | .val (.tuple ds) => Q ds g1
  | .scr ns => Q (ns.map PyData.int) g1
  | _ => False
def rangeD (lo : Int) (n : Nat) : List Da := (List.range n).map fun i => .int (lo + (i : Nat))
def dRange1 (te : DE) : DW := fun g Q => te g fun r g1 => match r with
  | .val (.int j) => j < 2 ^ 62 ∧ -(2 ^ 62) ≤ j ∧ Q (rangeD 0 j.toNat) g1
  | _ => False
def zipD : List Da → List Da → List Da
  | x :: xs, y :: ys => .tuple [x, y] :: zipD xs ys
  | _, _ => []
theorem zipD_len : ∀ (xs ys : List Da), (zipD xs ys).length = min xs.length ys.length
  | [], _ => by simp [zipD]
  | _ :: _, [] => by simp [zipD]
  | x :: xs, y :: ys => by
    show (zipD xs ys).length + 1 = _
    rw [zipD_len xs ys, List.length_cons, List.length_cons]
    omega
theorem zipD_get : ∀ (xs ys : List Da) (i : Nat) (x y : Da), xs[i]? = some x → ys[i]? = some y → (zipD xs ys)[i]? = some (.tuple [x, y])
  | [], _, _, _, _, h, _ => by simp at h
  | _ :: _, [], _, _, _, _, h => by simp at h
  | a :: xs, b :: ys, 0, x, y, h1, h2 => by simp at h1 h2; subst h1; subst h2; rfl
  | a :: xs, b :: ys, i + 1, x, y, h1, h2 => zipD_get xs ys i x y (by simpa using h1) (by simpa using h2)
section
variable {X : Cx} {tg l b : Expr} {te ta tb : DE} {p pos : Pos}
/-- a list, a tuple, the script -/
theorem i_items (hl : PE X l (up X.K te)) : PI X tg l (upI X.K (dItems te)) := by
  refine ⟨fun pins st σ H R I q => ?_⟩
  obtain ⟨c, g, tv, tr, F, a, post, s, t, k⟩ := q
  refine thn (hl.run pins st σ H (fun v H1 => (∃ p xs, v = .ref p ∧ SqL X.K H1 p xs ∧ R (Itl X.K p) H1) ∨ ∃ p xs, v = .ref p ∧ SqT X.K H1 p xs ∧ R (Itt X.K p) H1) I ?_) fun u s1 ⟨x, H1, I1, r1, q1⟩ => ?_
  · refine ⟨c, g, tv, tr, F, a, _, s, t, fun r g1 v H1 F1 a1 t1 s1 => ?_⟩
    cases r with
    | val d =>
      cases d with
      | list ds =>
        have hr : Rp X.K F1 v (.list ds) := s1.top
        cases hr with
        | lst sq m => exact .inl ⟨_, _, rfl, .inl (.inl (s1.eh _ _ sq)), k ds g1 H1 F1 a1 _ [_] [.val (.list ds)] t1 s1 rfl rfl walkD_list⟩
      | tuple ds =>
        have hr : Rp X.K F1 v (.tuple ds) := s1.top
        cases hr with
        | tup sq m => exact .inr ⟨_, _, rfl, ex_t s1.eh sq, k ds g1 H1 F1 a1 _ [_] [.val (.tuple ds)] t1 s1 rfl rfl walkD_tup⟩
      | _ => exact t1.elim
    | scr ns =>
      obtain ⟨b, rfl, sq⟩ := s1.top
      exact .inl ⟨_, _, rfl, ex_l s1.eh sq, k _ g1 H1 F1 a1 _ [_] [.scr ns] t1 s1 rfl rfl walkD_scr⟩
    | src => exact t1.elim
    | ob _ => exact t1.elim
  · have fr := I1.hok.fresh (Nat.le_refl s1.heap.objs.size)
    have fp : ∀ b ∈ [s1.heap.objs.size], FpOk X pins H1 b := fun b hb => by
      cases List.mem_singleton.mp hb
      exact I1.fpOk (Nat.le_refl _) fr
    rcases q1 with ⟨p, xs, rfl, sq, q⟩ | ⟨p, xs, rfl, sq, q⟩
    · cases r1
      obtain ⟨its, rv, pl, hz⟩ := I1.list sq
      exact wpAny_pyIter_list pl.isList ⟨_, _, _, _, H1, rfl, I1.kept (t' := s1.toks) fun b o e => Heap.get?_push_of_some _ e, turn_list p _, ⟨_, Heap.get?_push_size _ rfl, rfl, rfl⟩, fp, q⟩
    · cases r1
      obtain ⟨its, rv, pl, hz⟩ := I1.tuple sq
      exact wpAny_pyIter_tuple (show s1.heap.IsTuple p its.toArray from pl) ⟨_, _, _, _, H1, rfl, I1.kept (t' := s1.toks) fun b o e => Heap.get?_push_of_some _ e, turn_tuple p _, ⟨_, Heap.get?_push_size _ rfl, rfl, rfl⟩, fp, q⟩
theorem pi_to {w w' : TI} (h : PI X tg l w) (i : ∀ σ H R, w' σ H R → w σ H R) : PI X tg l w' := ⟨fun pins s σ H R I q => h.run pins s σ H R I (i _ _ _ q)⟩
theorem rangeD_get {lo : Int} {n i : Nat} (h : i < n) : (rangeD lo n)[i]? = some (.int (lo + (i : Nat))) := by
  unfold rangeD
  rw [List.getElem?_map, List.getElem?_range h]
  rfl
theorem rangeD_len (lo : Int) (n : Nat) : (rangeD lo n).length = n := by
  unfold rangeD
  rw [List.length_map, List.length_range]
theorem walkD_range {K : Fg} {lo : Int} {n : Nat} : WalkD K (Itr lo n) (rangeD lo n) [] [] := by
  refine ⟨fun i F H a fu e t hi => ?_, fun F H a fu e t => ?_, fun i F H a fu x H' e t hi y => ?_⟩
  · rw [rangeD_len] at hi; exact hi
  · rw [rangeD_len]; exact Nat.le_refl n
  · rw [rangeD_len] at hi
    obtain ⟨rfl, rfl⟩ := y
    exact ⟨F, _, rangeD_get hi, Gr.refl e, .int _⟩
theorem i_range1 (hg : Gl X "range") (hm : X.mg "range" = none) (ha : PE X l (up X.K te)) (hs : starEach [l] X.env = [(false, eval l X.env)] := by rfl) : PI X tg (.Call (.Name "range" p) [l] [] pos) (upI X.K (dRange1 te)) :=
  pi_to (pi_range1 hg hm (pa_cons ha pa_nil hs) hs) fun σ H R q => by
  obtain ⟨c, g, tv, tr, F, a, post, s, t, k⟩ := q
  refine ⟨c, g, tv, tr, F, a, _, s, t, fun r g1 v H1 F1 a1 t1 s1 => ?_⟩
  cases r with
  | val d =>
    cases d with
    | int j =>
      have hr : Rp X.K F1 v (.int j) := s1.top
      cases hr
      exact ⟨j, rfl, t1.2.1, t1.1, k _ g1 H1 F1 a1 _ [] [] t1.2.2 s1.pop1 rfl rfl walkD_range⟩
    | _ => exact t1.elim
  | _ => exact t1.elim
end
end Z
namespace Z
open L2 PySem PySem.Spec PyProof.Rows
open Evl (Ex ex_l ex_t ex_rd fresh_back)
variable {Wx : WX}
def upGw (K : Fg) (vs : List Nat) (t : DG) : TG := fun v σ H Q => ∃ c g tv tr F a r post, Sta K c g σ H (v :: tv) (r :: tr) F a ∧ t r g post ∧
  ∀ g' σ' H' F' a', post g' → Sta K c g' σ' H' tv tr F' a' → wipe σ' vs = wipe σ vs → Q σ' H'
def upGsw (K : Fg) (vs : List Nat) (t : DGs) : TGs := fun us σ H Q => ∃ c g tv tr F a ds post, Sta K c g σ H (us ++ tv) (ds.map Rv.val ++ tr) F a ∧ us.length = ds.length ∧ t ds g post ∧
  ∀ g' σ' H' F' a', post g' → Sta K c g' σ' H' tv tr F' a' → wipe σ' vs = wipe σ vs → Q σ' H'
theorem wipe_get {σ : L2.St} : ∀ {vs : List Nat} {i : Nat}, i ∉ vs → (wipe σ vs)[i]? = σ[i]?
  | [], _, _ => rfl
  | v :: vs, i, h => by
    show ((wipe σ vs).set v none)[i]? = _
    rw [List.getElem?_set_ne (fun e => h (by rw [e]; exact List.mem_cons_self)), wipe_get fun z => h (List.mem_cons_of_mem _ z)]
theorem wipe_in {σ : L2.St} : ∀ {vs : List Nat} {i : Nat}, i ∈ vs → i < σ.length → (wipe σ vs)[i]? = some none
  | v :: vs, i, h, hl => by
    show ((wipe σ vs).set v none)[i]? = _
    by_cases e : v = i
    · subst e
      exact List.getElem?_set_self (by rw [wipe_length]; exact hl)
    · rw [List.getElem?_set_ne e]
      rcases List.mem_cons.mp h with z | z
      · exact absurd z.symm e
      · exact wipe_in z hl
theorem wipe_set {σ : L2.St} {vs : List Nat} {i : Nat} {x : Option V} (h : i ∈ vs) : wipe (σ.set i x) vs = wipe σ vs := by
  apply List.ext_getElem?
  intro j
  by_cases hj : j ∈ vs
  · by_cases hl : j < σ.length
    · rw [wipe_in hj (by rw [List.length_set]; exact hl), wipe_in hj hl]
    · rw [List.getElem?_eq_none (by rw [wipe_length, List.length_set]; omega), List.getElem?_eq_none (by rw [wipe_length]; omega)]
  · rw [wipe_get hj, wipe_get hj, List.getElem?_set_ne (fun e => hj (by rw [← e]; exact h))]
section
variable {X : Cx} {pos : Pos} {e : Expr} {es : List Expr} {vs : List Nat} {K : Fg}
theorem gw_name {i : Nat} (hk : K = X.K) (h : PG X e (gName i)) (hi : i ∈ vs) : PG X e (upGw K vs (dN i)) := pg_to h fun v σ H Q q => by
  subst hk
  obtain ⟨c, g, tv, tr, F, a, r, post, s, t, k⟩ := q
  exact k _ _ H F a t (s.set i) (wipe_set hi)
theorem gsw_nil : PGs X [] (upGsw K vs dTn) := pgs_to pgs_nil fun us σ H Q q => by
  obtain ⟨c, g, tv, tr, F, a, ds, post, s, hl, t, k⟩ := q
  cases ds with
  | nil =>
    have : us = [] := List.length_eq_zero_iff.mp hl
    subst this
    exact ⟨rfl, k _ _ H F a t s rfl⟩
  | cons d r => exact t.elim
theorem gsw_cons {t : DG} {u : DGs} (h : PG X e (upGw K vs t)) (hr : PGs X es (upGsw K vs u)) (hs : (assignEach (e :: es) X.env).map (·.2) = assign e X.env :: (assignEach es X.env).map (·.2) := by rfl) : PGs X (e :: es) (upGsw K vs (dTc t u)) := pgs_to (pgs_cons h hr hs) fun us σ H Q q => by
  obtain ⟨c, g, tv, tr, F, a, ds, post, s, hl, t, k⟩ := q
  cases ds with
  | nil => exact t.elim
  | cons d r =>
    cases us with
    | nil => simp at hl
    | cons v us =>
      refine ⟨v, us, rfl, c, g, _, _, F, a, _, _, s, t, fun g1 σ1 H1 F1 a1 t1 s1 w1 => ?_⟩
      exact ⟨c, g1, tv, tr, F1, a1, r, _, s1, by simpa using hl, t1, fun g2 σ2 H2 F2 a2 t2 s2 w2 => k g2 σ2 H2 F2 a2 t2 s2 (w2.trans w1)⟩
theorem gw_tup {n k : Nat} {t : DGs} (hk : K = X.K) (hc : X.calm = true) (h : PGs X es (upGsw K vs t)) (hn : (assignEach es X.env).length = n := by rfl) (hf : List.findIdx? (fun x => x.1) (assignEach es X.env) = none := by rfl) : PG X (.Tuple es k pos) (upGw K vs (dT n t)) :=
  pg_to (pg_tup hc h hn hf) fun v σ H Q q => by
  subst hk
  obtain ⟨c, g, tv, tr, F, a, r, post, s, t, k⟩ := q
  cases r with
  | val d =>
    cases d with
    | tuple ds =>
      have hr : Rp X.K F v (.tuple ds) := s.top
      cases hr with
      | tup sq m =>
        refine ⟨_, _, rfl, ex_t s.eh sq, by rw [m.len]; exact t.1, c, g, tv, tr, F, a, ds, post, s.pop ((Tm.ofRps m).app s.pop1.tmp), m.len, t.2, k⟩
    | _ => exact t.elim
  | _ => exact t.elim
end
def noOwn : Option Sv → Option Sv
  | some (.own _) => none
  | x => x
def wipeS (sl : List (Option Sv)) : List Nat → List (Option Sv)
  | [] => sl
  | v :: vs => (wipeS sl vs).set v none
def hide (vs : List Nat) (sl : List (Option Sv)) : List (Option Sv) := wipeS (sl.map noOwn) vs
theorem wipeS_len (sl : List (Option Sv)) : ∀ vs, (wipeS sl vs).length = sl.length
  | [] => rfl
  | v :: vs => by
    show ((wipeS sl vs).set v none).length = _
    rw [List.length_set, wipeS_len sl vs]
theorem wipeS_some {sl : List (Option Sv)} : ∀ {vs : List Nat} {i : Nat} {s : Sv}, (wipeS sl vs)[i]? = some (some s) → i ∉ vs ∧ sl[i]? = some (some s)
  | [], _, _, h => ⟨by simp, h⟩
  | v :: vs, i, s, h => by
    rcases set_some (show ((wipeS sl vs).set v none)[i]? = some (some s) from h) with ⟨_, _, e⟩ | ⟨ne, e⟩
    · cases e
    · obtain ⟨h1, h2⟩ := wipeS_some e
      exact ⟨by simp only [List.mem_cons, not_or]; exact ⟨ne, h1⟩, h2⟩
theorem hide_some {sl : List (Option Sv)} {vs : List Nat} {i : Nat} {s : Sv} (h : (hide vs sl)[i]? = some (some s)) : i ∉ vs ∧ sl[i]? = some (some s) ∧ ∀ ds, s ≠ .own ds := by
  obtain ⟨h1, h2⟩ := wipeS_some h
  rw [List.getElem?_map] at h2
  cases q : sl[i]? with
  | none => rw [q] at h2; cases h2
  | some x =>
    rw [q] at h2
    have h3 : noOwn x = some s := Option.some.inj h2
    refine ⟨h1, ?_, fun ds e => ?_⟩
    · cases x with
      | none => cases h3
      | some y => cases y <;> first | (cases h3; rfl) | cases h3
    · subst e
      cases x with
      | none => cases h3
      | some y => cases y <;> cases h3
def fuN (fu fu' : Option Nat) : Option Nat := match fu with
  | some _ => fu'
  | none => none
def lcD (sl : List (Option Sv)) (t : DG) (tt : DT) (te : DE) : List Da → List Da → Option Nat → (List Da → Option Nat → Prop) → Prop
  | [], acc, fu, Q => Q acc fu
  | x :: xs, acc, fu, Q => t (.val x) ⟨sl, fu, false⟩ fun g1 => tt g1 fun b g2 =>
    (b = true → te g2 fun r g3 => match r with
      | .val d => acc.length < 1000000 ∧ lcD sl t tt te xs (acc ++ [d]) (fuN fu g3.fu) Q
      | _ => False) ∧ (b = false → lcD sl t tt te xs acc (fuN fu g2.fu) Q)
def dYes : DT := fun g Q => Q true g
def dLc (vs : List Nat) (tw : DW) (t : DG) (tt : DT) (te : DE) : DL := fun g Q => tw g fun ds g1 => lcD (hide vs g1.sl) t tt te ds [] g1.fu fun acc fu' => Q acc { g1 with fu := fu' }
section
variable {K : Fg} {F1 H1 F H : Hp} {a D : Addr} {fu0 fu : Option Nat} {acc : List Da}
/-- behind a turn: from the nested entry back to the one ahead of the comprehension -/
theorem Out.turn (o : Out K F1 H1 a fu0 fu F H (.ref D) (.own acc)) {g : Gs} {σ : L2.St} {H4 F4 : Hp} {tv : List V} {tr : List Rv} {a4 : Addr} (hfu : fu0 = none → fu = none) (hD : fu0 ≠ none → D ≠ a) (s : Sta K ⟨F, H, if fu = none then none else some a⟩ g σ H4 tv tr F4 a4) :
    (fu0 ≠ none → a4 = a) ∧ F4 D = none ∧ (fu0 = none → fuN fu g.fu = none) ∧ (∃ xs, H4 D = some (.lst xs) ∧ Rps K F4 xs acc) ∧ Out K F1 H1 a fu0 (fuN fu g.fu) F4 H4 (.ref D) (.own acc) := by
  obtain ⟨o', xs, eD, d1, d2, d3, d4⟩ := o.rep
  cases eD
  have fne : fu0 ≠ none → fu ≠ none := fun hf => by
    obtain ⟨n, e, _⟩ := o.src hf
    exact ne_none e
  have ext1 : fu0 ≠ none → (if fu = none then none else some a : Option Addr) = some a := fun hf => if_neg (fne hf)
  have ext0 : ∀ b, (fu0 ≠ none → b ≠ a) → (if fu = none then none else some a : Option Addr) ≠ some b := fun b hb => by
    by_cases hf : fu = none
    · rw [if_pos hf]; exact fun z => nomatch z
    · rw [if_neg hf]
      intro z
      cases z
      exact hb (fun z => hf (hfu z)) rfl
  have a4e : fu0 ≠ none → a4 = a ∧ g.fu ≠ none := fun hf => s.ex a (ext1 hf)
  have hD4 : H4 D = some (.lst xs) := s.keep D _ (ext0 D hD) (fun _ z => by cases z) d3
  have hF4 : F4 D = none := by
    cases q : F4 D with
    | none => rfl
    | some u =>
      rcases s.new D (ne_none q) with z | z
      · exact absurd d2 z
      · have z' : H D = none := z
        rw [d3] at z'; cases z'
  have hn : fu0 = none → fuN fu g.fu = none := fun z => by
    rw [hfu z]; rfl
  refine ⟨fun hf => (a4e hf).1, hF4, hn, ⟨xs, hD4, d4.up s.e0⟩, ⟨o.f.trans s.e0, s.eh, fun b u hb hn e => s.keep b u (ext0 b hb) hn (o.keep b u hb hn e), fun b q => ?_, fun hf => ?_, ⟨D, xs, rfl, d1, hF4, hD4, d4.up s.e0⟩, o.tab.trans s.tab, s.t0⟩⟩
  · rcases s.new b q with z | z
    · exact o.new b z
    · have z' : H b = none := z
      refine .inr ?_
      cases e : H1 b with
      | none => rfl
      | some u =>
        by_cases hb : fu0 ≠ none → b ≠ a
        · cases u with
          | tbl ps =>
            obtain ⟨ps', w⟩ := o.tab b ps e
            rw [w] at z'; cases z'
          | _ => rw [o.keep b _ hb (fun _ z => by cases z) e] at z'; cases z'
        · have hb1 : fu0 ≠ none := fun w => hb fun w' => absurd w w'
          have hb2 : b = a := Classical.byContradiction fun w => hb fun _ => w
          obtain ⟨n, _, _, x, y, w, q', _⟩ := o.src hb1
          rw [hb2, q'] at z'; cases z'
  · obtain ⟨e1, e2⟩ := a4e hf
    subst e1
    cases q : g.fu with
    | none => exact absurd q e2
    | some n =>
      obtain ⟨h1, _, h3⟩ := s.src n q
      cases q2 : fu with
      | none => exact absurd q2 (fne hf)
      | some m => exact ⟨n, rfl, h1, h3⟩
/-- the list at D grows -/
theorem Out.grow (o : Out K F1 H1 a fu0 fu F H (.ref D) (.own acc)) (hD : fu0 ≠ none → D ≠ a) {xs : List V} {v : V} {d : Da} (hx : H D = some (.lst xs)) (m : Rps K F xs acc) (r : Rp K F v d) : Out K F1 H1 a fu0 fu F (upd H D (.lst (xs ++ [v]))) (.ref D) (.own (acc ++ [d])) := by
  obtain ⟨o', ys, eD, d1, d2, d3, d4⟩ := o.rep
  cases eD
  refine ⟨o.f, fun b u q => ?_, fun b u hb hn e => ?_, o.new, fun hf => ?_, ⟨D, _, rfl, d1, d2, upd_same, m.app (.cons r .nil)⟩, o.tab.trans (.but hx (fun _ z => by cases z) fun b u ne h => by rw [upd_ne ne]; exact h), o.tk.but hx (fun _ z => by cases z) fun b u ne h => by rw [upd_ne ne]; exact h⟩
  · have nb : b ≠ D := fun z => by rw [z, d2] at q; cases q
    rw [upd_ne nb]; exact o.s b u q
  · have nb : b ≠ D := fun z => by rw [z, d1] at e; cases e
    rw [upd_ne nb]; exact o.keep b u hb hn e
  · obtain ⟨n, h1, h2, x, y, w, q', h3⟩ := o.src hf
    exact ⟨n, h1, h2, x, y, w, by rw [upd_ne (fun z => hD hf z.symm)]; exact q', h3⟩
end
theorem lc_sta {K : Fg} {c : Con} {g1 : Gs} {σ : L2.St} {H1 F1 : Hp} {tv : List V} {tr : List Rv} {a : Addr} (s : Sta K c g1 σ H1 tv tr F1 a) (vs : List Nat) {fu : Option Nat} {F H : Hp} {D : Addr} {acc : List Da} (o : Out K F1 H1 a g1.fu fu F H (.ref D) (.own acc)) (hfu : g1.fu = none → fu = none) :
    Sta K ⟨F, H, if fu = none then none else some a⟩ ⟨hide vs g1.sl, fu, false⟩ (wipe σ vs) H tv tr F a := by
  have fne : g1.fu ≠ none → fu ≠ none := fun hf => by
    obtain ⟨n, e, _⟩ := o.src hf
    exact ne_none e
  have bne : fu ≠ none → g1.fu ≠ none := fun hf z => hf (hfu z)
  have tm : Tm K F a fu tv tr := by
    cases q : g1.fu with
    | none =>
      have t := s.tmp.up o.f
      rw [q] at t
      rw [hfu q]
      exact t
    | some n => exact (s.tmp.up o.f).refu (fne (ne_none q))
  refine ⟨Ex.refl F, o.s, fun b u _ _ e => e, fun b q => .inl q, fun b e => ?_, fun z => (by cases z), fun n e => ?_, tm, ?_, fun i sv h => ?_, fun i j ds es _ h => ?_, o.tk, .refl⟩
  · by_cases hf : fu = none
    · simp [hf] at e
    · simp [hf] at e
      exact ⟨e, hf⟩
  · have e' : fu = some n := e
    obtain ⟨n', h1, h2, h3⟩ := o.src (bne (ne_none e'))
    rw [e'] at h1
    cases h1
    exact ⟨h2, .inl (if_neg (ne_none e')), h3⟩
  · show (wipe σ vs).length = (hide vs g1.sl).length
    rw [wipe_length]
    unfold hide
    rw [wipeS_len, List.length_map]
    exact s.len
  · obtain ⟨h1, h2, h3⟩ := hide_some (show (hide vs g1.sl)[i]? = some (some sv) from h)
    obtain ⟨v, w1, w2⟩ := s.slot i sv h2
    refine ⟨v, by rw [wipe_get h1]; exact w1, ?_⟩
    cases sv with
    | val d => exact Rp.up w2 o.f
    | src => exact ⟨w2.1, fne w2.2⟩
    | scr ns => obtain ⟨b, z1, z2⟩ := w2; exact ⟨b, z1, ex_l o.f z2⟩
    | ob k => exact ObOk.up o.f w2
    | own ds => exact absurd rfl (h3 ds)
  · obtain ⟨_, _, h3⟩ := hide_some (show (hide vs g1.sl)[i]? = some (some (Sv.own ds)) from h)
    exact absurd rfl (h3 ds)
section
variable {K : Fg} {vs : List Nat} {tw : DW} {t : DG} {tt : DT} {te : DE}
theorem lc_main : ∀ σ H Q, upL K (dLc vs tw t tt te) σ H Q → tLc (upI K tw) (upGw K vs t) (upT K tt) (up K te) vs σ H Q := fun σ H Q q => by
  obtain ⟨c, g, tv, tr, F, a, post, s, q, k⟩ := q
  refine ⟨c, g, tv, tr, F, a, _, s, q, fun ds g1 H1 F1 a1 J wv wr hf s1 hl hw wd D hD => ?_⟩
  have sp : ∀ {g : Gs} {c : Con} {σ : L2.St} {H F : Hp} {a : Addr}, Sta K c g σ H (wv ++ tv) (wr ++ tr) F a → Tm K F a g.fu wv wr ∧ Tm K F a g.fu tv tr := fun s => Tm.split hl s.tmp
  have srcH : g1.fu ≠ none → ∃ n, g1.fu = some n ∧ F1 a1 = none ∧ SrcAt H1 a1 n := fun hf => by
    cases q : g1.fu with
    | none => exact absurd q hf
    | some n => exact ⟨n, rfl, (s1.src n q).1, (s1.src n q).2.2⟩
  have Da1 : g1.fu ≠ none → D ≠ a1 := fun hf e => by
    obtain ⟨n, _, _, x, y, z, q, _⟩ := srcH hf
    rw [← e, hD] at q; cases q
  have o0 : Out K F1 H1 a1 g1.fu g1.fu F1 (upd H1 D (.lst [])) (.ref D) (.own []) := by
    have eH : Ex H1 (upd H1 D (.lst [])) := Ex.new hD
    refine ⟨Ex.refl F1, s1.eh.trans eH, fun b u _ _ e => eH b u e, fun b q => .inl q, fun hf => ?_, ⟨D, [], rfl, hD, fresh_back s1.eh hD, upd_same, .nil⟩, .ex eH, s1.t0.up (Ex.refl _) (fun b ps h => eH b _ h) fun _ h => .inl h⟩
    obtain ⟨n, h1, h2, x, y, z, q, h3⟩ := srcH hf
    exact ⟨n, h1, h2, x, y, z, eH _ _ q, h3⟩
  refine lc_it wd.walk (fun i H => ∃ F fu acc, Out K F1 H1 a1 g1.fu fu F H (.ref D) (.own acc) ∧ (g1.fu = none → fu = none) ∧ lcD (hide vs g1.sl) t tt te (ds.drop i) acc fu fun acc fu' => post acc { g1 with fu := fu' }) ⟨F1, g1.fu, [], o0, id, hf⟩ (fun i H hi p => ?_) (fun i x H H' hi p y => ?_) (fun H p => ?_)
  · obtain ⟨F, fu, acc, o, hfu, _⟩ := p
    have s2 := lc_sta s1 vs o hfu
    exact ⟨F, a1, fu, s2.eh, (sp s2).1⟩
  · obtain ⟨F, fu, acc, o, hfu, f⟩ := p
    have s2 := lc_sta s1 vs o hfu
    obtain ⟨F2, dx, e1, gr, rx⟩ := wd.yields i F H a1 fu x H' s2.eh (sp s2).1 hi y
    rw [drop_at e1] at f
    refine ⟨_, _, wv ++ tv, wr ++ tr, F2, a1, .val dx, _, (s2.grow gr).push (r := .val dx) rx, f, fun g3 σ3 H3 F3 a3 t3 s3 w3 => ⟨?_, ?_⟩⟩
    · rw [w3]
      apply List.ext_getElem?
      intro j
      by_cases hj : j ∈ vs
      · by_cases hl : j < σ.length
        · rw [wipe_in hj (by rw [wipe_length]; exact hl), wipe_in hj hl]
        · rw [List.getElem?_eq_none (by rw [wipe_length, wipe_length]; omega), List.getElem?_eq_none (by rw [wipe_length]; omega)]
      · rw [wipe_get hj, wipe_get hj]
    · refine ⟨_, g3, _, _, F3, a3, _, s3, t3, fun b g4 H4 F4 a4 t4 s4 => ?_⟩
      cases b with
      | true =>
        rw [if_pos rfl]
        refine ⟨_, g4, _, _, F4, a4, _, s4, t4.1 rfl, fun r g5 v H5 F5 a5 t5 s5 => ?_⟩
        cases r with
        | val d =>
          obtain ⟨ae, fD, fn, ⟨xs, hx, m⟩, o5⟩ := o.turn hfu Da1 s5.pop1
          exact ⟨xs, hx, by rw [m.len]; exact Nat.lt_of_lt_of_le t5.1 (by decide), F5, _, _, o5.grow Da1 hx m s5.top, fn, t5.2⟩
        | _ => exact t5.elim
      | false =>
        rw [if_neg Bool.false_ne_true]
        obtain ⟨ae, fD, fn, ⟨xs, hx, m⟩, o5⟩ := o.turn hfu Da1 s4
        exact ⟨F4, _, _, o5, fn, t4.2 rfl⟩
  · obtain ⟨F, fu, acc, o, hfu, f⟩ := p
    rw [List.drop_length] at f
    have s1' := s1.pop (sp s1).2
    by_cases hf : g1.fu = none
    · have o' := o
      rw [hf] at o'
      have s3 := s1'.after0 o'
      have e : ({ g1 with fu := fu } : Gs) = g1 := by
        rw [hfu hf, ← hf]
      refine k acc _ _ H F a1 f ?_ ?_
      · rw [e]; exact s3
      · rw [e]; exact NewL.of s1' rfl id o.rep
    · exact k acc _ _ H F a1 f (s1'.after1 hf o) (NewL.of (g' := { g1 with fu := fu }) s1' rfl (fun _ => hf) o.rep)
end
section
variable {X : Cx} {elt tg iter : Expr} {ifs : List Expr} {scope : Scope} {own : List (Str × Nat)} {pos spos : Pos} {tw : DW} {t : DG} {tt : DT} {te : DE}
theorem ts_yes : PTs X [] (upT X.K dYes) := ⟨fun pins s σ H Q I q => by
  obtain ⟨c, g, tv, tr, F, a, post, st, t, k⟩ := q
  exact pts_nil.run pins s σ H Q I (k true g H F a t st)⟩
theorem e_lc (hc : X.calm = true) (hN : X.N.Nodup) (hi : PI X tg iter (upI X.K tw)) (hb : BlkOk X.N X.env.scope scope own)
    (hg : ∀ s H C cl fp, PG (X.blk s H scope (compEnvC scope cl C X.env) fp) tg (upGw X.K (own.map (·.2)) t)) (ht : ∀ s H C cl fp, PTs (X.blk s H scope (compEnvC scope cl C X.env) fp) ifs (upT X.K tt))
    (he : ∀ s H C cl fp, PE (X.blk s H scope (compEnvC scope cl C X.env) fp) elt (up X.K te)) (hfs : ∀ x, foldedSetIterable iter X.env x = pure x := by intro _; rfl) :
    PE X (.ListComp elt [{ target := tg, iter := iter, ifs := ifs, is_async := 0 }] scope pos) (upL X.K (dLc (own.map (·.2)) tw t tt te)) := pe_to (pe_lc hc hN hi hb hg ht he hfs) lc_main
end
end Z
namespace Z
open L2 PySem PySem.Spec PyProof.Rows
open Evl (Ex ex_l ex_t ex_rd fresh_back)
abbrev CF := List Rv → (Da → Prop) → Prop
def dCB (f : CF) (ta : DA) : DE := fun g Q => ta g fun rs g1 => f rs fun z => Q (.val z) g1
def CallOk (K : Fg) (r : List V → Hp → VK → Prop) (f : CF) : Prop := ∀ (F H : Hp) (a : Addr) (fu : Option Nat) (vs : List V) (rs : List Rv) (post : Da → Prop) (Q : VK), Ex F H → Tm K F a fu vs rs → f rs post →
  (∀ z v H' F', post z → Gr F H F' H' → Rp K F' v z → Q v H') → r vs H Q
section
variable {X : Cx} {x : Str} {p pos : Pos} {e : Expr} {es : List Expr} {tr : DA} {id T : String} {r : List V → Hp → VK → Prop} {f : CF}
theorem cb_core (hf : CallOk X.K r f) : ∀ σ H Q, up X.K (dCB f tr) σ H Q → tCB r (upA X.K tr) σ H Q := fun σ H Q q => by
  obtain ⟨c, g, tv, tr, F, ad, post, s, t, k⟩ := q
  refine ⟨c, g, tv, tr, F, ad, _, s, t, fun rs g1 vs H1 F1 a1 t1 s1 hl => ?_⟩
  obtain ⟨m1, m2⟩ := s1.tmp.args hl
  exact hf F1 H1 a1 g1.fu vs rs _ _ s1.eh m1 t1 fun z v H' F' hz gr rz => k _ g1 v H' F' a1 hz (((s1.pop m2).grow gr).push (r := .val z) rz)
theorem e_callB (hc : CallR X (.builtin id) r) (hf : CallOk X.K r f) (hg : Gl X x) (hm : X.mg x = none) (hv : bootBuiltins x = some (.builtin id)) (ha : PA X (e :: es) (upA X.K tr)) (hn : x ≠ "__name__" := by decide) (hdb : (x == ("__debug__" : Str)) = false := by decide)
    (he : starEach (e :: es) X.env = (false, eval e X.env) :: starEach es X.env := by rfl) (hpl : (backTo pos (starEach es X.env)).any (·.1) = false := by rfl) : PE X (.Call (.Name x p) (e :: es) [] pos) (up X.K (dCB f tr)) :=
  pe_to (pe_callB hc hg hm hv ha hn hdb he hpl) (cb_core hf)
theorem e_callTy (hc : CallR X (.type T) r) (hf : CallOk X.K r f) (hg : Gl X x) (hm : X.mg x = none) (hv : bootBuiltins x = some (.type T)) (ha : PA X (e :: es) (upA X.K tr)) (hn : x ≠ "__name__" := by decide) (hdb : (x == ("__debug__" : Str)) = false := by decide)
    (he : starEach (e :: es) X.env = (false, eval e X.env) :: starEach es X.env := by rfl) (hpl : (backTo pos (starEach es X.env)).any (·.1) = false := by rfl) : PE X (.Call (.Name x p) (e :: es) [] pos) (up X.K (dCB f tr)) :=
  pe_to (pe_callTy hc hg hm hv ha hn hdb he hpl) (cb_core hf)
end
section
variable {K : Fg}
theorem Tm.i1 {F : Hp} {a : Addr} {fu : Option Nat} {vs : List V} {i : Int} (h : Tm K F a fu vs [.val (.int i)]) : vs = [.int i] := by
  cases h with
  | cons h t =>
    cases t
    have h' : Rp K F _ (.int i) := h
    cases h'
    rfl
theorem Tm.i2 {F : Hp} {a : Addr} {fu : Option Nat} {vs : List V} {i j : Int} (h : Tm K F a fu vs [.val (.int i), .val (.int j)]) : vs = [.int i, .int j] := by
  cases h with
  | cons h t =>
    cases t.i1
    have h' : Rp K F _ (.int i) := h
    cases h'
    rfl
theorem Tm.v1 {F : Hp} {a : Addr} {fu : Option Nat} {vs : List V} {d : Da} (h : Tm K F a fu vs [.val d]) : ∃ v, vs = [v] ∧ Rp K F v d := by
  cases h with
  | cons h t =>
    cases t
    exact ⟨_, rfl, h⟩
def cInt1 (o : Int → Int) : CF := fun rs post => match rs with
  | [.val (.int i)] => post (.int (o i))
  | _ => False
def cInt2 (o : Int → Int → Int) : CF := fun rs post => match rs with
  | [.val (.int i), .val (.int j)] => post (.int (o i j))
  | _ => False
theorem ok_int1 {o : Int → Int} : CallOk K (fun xs H Q => ∃ i, xs = [V.int i] ∧ Q (.int (o i)) H) (cInt1 o) := fun F H a fu vs rs post Q e t hf k => by
  unfold cInt1 at hf
  split at hf
  · exact ⟨_, t.i1, k _ _ H F hf (Gr.refl e) (.int _)⟩
  · exact hf.elim
theorem ok_int2 {o : Int → Int → Int} : CallOk K (fun xs H Q => ∃ i j, xs = [V.int i, V.int j] ∧ Q (.int (o i j)) H) (cInt2 o) := fun F H a fu vs rs post Q e t hf k => by
  unfold cInt2 at hf
  split at hf
  · exact ⟨_, _, t.i2, k _ _ H F hf (Gr.refl e) (.int _)⟩
  · exact hf.elim
/-- len -/
def cLen : CF := fun rs post => match rs with
  | [.val (.list ds)] => post (.int ds.length)
  | [.val (.tuple ds)] => post (.int ds.length)
  | [.val (.str x)] => x.length ≤ sizeLine ∧ post (.int x.length)
  | [.scr ns] => post (.int ns.length)
  | _ => False
theorem ok_len : CallOk K (fun xs H Q => ∃ x n, xs = [x] ∧ LenV K x H n ∧ Q (.int n) H) cLen := fun F H a fu vs rs post Q e t hf k => by
  unfold cLen at hf
  split at hf
  · rename_i ds
    obtain ⟨v, rfl, r⟩ := t.v1
    cases r with
    | lst sq m => exact ⟨_, _, rfl, .inl ⟨_, .inl (.inl (e _ _ sq)), m.len.symm⟩, k _ _ H F hf (Gr.refl e) (.int _)⟩
  · rename_i ds
    obtain ⟨v, rfl, r⟩ := t.v1
    cases r with
    | tup sq m => exact ⟨_, _, rfl, .inr ⟨_, ex_t e sq, m.len.symm⟩, k _ _ H F hf (Gr.refl e) (.int _)⟩
  · rename_i x
    obtain ⟨v, rfl, r⟩ := t.v1
    cases r
    exact ⟨_, _, rfl, ⟨hf.1, rfl⟩, k _ _ H F hf.2 (Gr.refl e) (.int _)⟩
  · rename_i ns
    cases t with
    | cons h t =>
      cases t
      obtain ⟨b, rfl, sq⟩ := h
      exact ⟨_, _, rfl, .inl ⟨_, ex_l e sq, (List.length_map ..).symm⟩, k _ _ H F hf (Gr.refl e) (.int _)⟩
  · exact hf.elim
/-- all of a list of bools -/
def boolsD : List Da → Option (List Bool)
  | [] => some []
  | .bool b :: r => (boolsD r).map (b :: ·)
  | _ :: _ => none
theorem bools_v {F : Hp} : ∀ {vs : List V} {ds : List Da} {bs : List Bool}, Rps K F vs ds → boolsD ds = some bs → vs = bs.map V.bl
  | _, _, _, .nil, h => by cases h; rfl
  | _, d :: ds, bs, .cons r t, h => by
    cases d with
    | bool b =>
      unfold boolsD at h
      cases q : boolsD ds with
      | none => rw [q] at h; cases h
      | some cs =>
        rw [q] at h
        cases h
        cases r
        rw [bools_v t q]
        rfl
    | _ => cases h
def cAll : CF := fun rs post => match rs with
  | [.val (.list ds)] => (match boolsD ds with | some bs => post (.bool (bs.all id)) | none => False)
  | _ => False
theorem ok_all : CallOk K (rAll K) cAll := fun F H a fu vs rs post Q e t hf k => by
  unfold cAll at hf
  split at hf
  · rename_i ds
    split at hf
    · rename_i bs q
      obtain ⟨v, rfl, r⟩ := t.v1
      cases r with
      | lst sq m =>
        rw [bools_v m q] at sq
        exact ⟨_, bs, rfl, .inl (.inl (e _ _ sq)), k _ _ H F hf (Gr.refl e) (.bl _)⟩
    · exact hf.elim
  · exact hf.elim
/-- tuple(..) -/
def cTuple : CF := fun rs post => match rs with
  | [.val (.list ds)] => post (.tuple ds)
  | [.val (.tuple ds)] => post (.tuple ds)
  | _ => False
theorem ok_tuple : CallOk K (fun xs H Q => ∃ p ys, xs = [V.ref p] ∧ ((SqL K H p ys ∧ ∀ l, H l = none → Q (.ref l) (upd H l (.tup ys))) ∨ (SqT K H p ys ∧ Q (.ref p) H))) cTuple := fun F H a fu vs rs post Q e t hf k => by
  unfold cTuple at hf
  split at hf
  · rename_i ds
    obtain ⟨v, rfl, r⟩ := t.v1
    cases r with
    | lst sq m =>
      rename_i pp xs
      refine ⟨_, _, rfl, .inl ⟨.inl (.inl (e _ _ sq)), fun l hl => ?_⟩⟩
      have gr := Gr.new (o := .tup xs) e hl
      exact k _ _ _ _ hf gr (.tup (.inl (.inl upd_same)) (m.up gr.f))
  · rename_i ds
    obtain ⟨v, rfl, r⟩ := t.v1
    cases r with
    | tup sq m => exact ⟨_, _, rfl, .inr ⟨ex_t e sq, k _ _ H F hf (Gr.refl e) (.tup sq m)⟩⟩
  · exact hf.elim
end
def tyD : Da → String
  | .none => "NoneType"
  | .bool _ => "bool"
  | .int _ => "int"
  | .str _ => "str"
  | .list _ => "list"
  | .tuple _ => "tuple"
  | .dict _ => "dict"
theorem ty_v {K : Fg} {F H : Hp} {v : V} {d : Da} (e : Ex F H) (r : Rp K F v d) : TyX K H v (.type (tyD d)) := by
  cases r with
  | non => exact .base .non
  | bl b => exact .base (.bl b)
  | int i => exact .base (.int i)
  | str x => exact .base (.str x)
  | lst sq m => exact .base (.lst (e _ _ sq))
  | tup sq m =>
    rcases sq with (h | ⟨o, h⟩) | ⟨o, its, n, h1, h2, _⟩
    · exact .base (.tup (e _ _ h))
    · exact .fTuple (e _ _ h)
    · exact .kTuple h1 h2
  | dct h _ =>
    rcases h with h | ⟨o, h⟩
    · exact .base (.dK (e _ _ h))
    · exact .fDict (e _ _ h)
def isTy (T : String) (d : Da) : Bool := match d with
  | .none => T == "NoneType"
  | .bool _ => T == "bool" || T == "int"
  | .int _ => T == "int"
  | .str _ => T == "str"
  | .list _ => T == "list"
  | .tuple _ => T == "tuple"
  | .dict _ => T == "dict"
def dIsi (T : String) (ta : DE) : DE := fun g Q => ta g fun r g1 => match r with
  | .val d => Q (.val (.bool (isTy T d))) g1
  | _ => False
section
variable {X : Cx} {x : Str} {p pos : Pos} {e c : Expr} {te : DE} {T : String}
theorem e_isi (hT : ∀ d : Da, kitB (tyD d) T = some (isTy T d)) (hg : Gl X "isinstance") (hm : X.mg "isinstance" = none) (he : PE X e (up X.K te)) (hc : PE X c (tC (.ty T)))
    (h1 : starEach [e, c] X.env = (false, eval e X.env) :: starEach [c] X.env := by rfl) (h2 : starEach [c] X.env = (false, eval c X.env) :: starEach [] X.env := by rfl) (hpl : (backTo pos (starEach [c] X.env)).any (·.1) = false := by rfl) :
    PE X (.Call (.Name "isinstance" p) [e, c] [] pos) (up X.K (dIsi T te)) := pe_to (pe_callB call_isi hg hm (by decide +kernel) (pa_cons he (pa_cons hc pa_nil h2) h1) (by decide) (by decide) h1 hpl) fun σ H Q q => by
  obtain ⟨c, g, tv, tr, F, ad, post, s, t, k⟩ := q
  refine ⟨c, g, tv, tr, F, ad, _, s, t, fun r g1 v H1 F1 a1 t1 s1 => ?_⟩
  cases r with
  | val d => exact ⟨_, _, _, _, isTy T d, rfl, .ty T, ty_v s1.eh s1.top, kit_ty (hT d), k _ g1 _ H1 F1 a1 t1 (s1.pop1.push (r := .val (.bool _)) (Rp.bl _))⟩
  | _ => exact t1.elim
end
theorem kit_int : ∀ d : Da, kitB (tyD d) "int" = some (isTy "int" d)
  | .none => (by decide +kernel : kitB "NoneType" "int" = some false)
  | .bool _ => (by decide +kernel : kitB "bool" "int" = some true)
  | .int _ => (by decide +kernel : kitB "int" "int" = some true)
  | .str _ => (by decide +kernel : kitB "str" "int" = some false)
  | .list _ => (by decide +kernel : kitB "list" "int" = some false)
  | .tuple _ => (by decide +kernel : kitB "tuple" "int" = some false)
  | .dict _ => (by decide +kernel : kitB "dict" "int" = some false)
theorem kit_bool : ∀ d : Da, kitB (tyD d) "bool" = some (isTy "bool" d)
  | .none => (by decide +kernel : kitB "NoneType" "bool" = some false)
  | .bool _ => (by decide +kernel : kitB "bool" "bool" = some true)
  | .int _ => (by decide +kernel : kitB "int" "bool" = some false)
  | .str _ => (by decide +kernel : kitB "str" "bool" = some false)
  | .list _ => (by decide +kernel : kitB "list" "bool" = some false)
  | .tuple _ => (by decide +kernel : kitB "tuple" "bool" = some false)
  | .dict _ => (by decide +kernel : kitB "dict" "bool" = some false)
theorem kit_str : ∀ d : Da, kitB (tyD d) "str" = some (isTy "str" d)
  | .none => (by decide +kernel : kitB "NoneType" "str" = some false)
  | .bool _ => (by decide +kernel : kitB "bool" "str" = some false)
  | .int _ => (by decide +kernel : kitB "int" "str" = some false)
  | .str _ => (by decide +kernel : kitB "str" "str" = some true)
  | .list _ => (by decide +kernel : kitB "list" "str" = some false)
  | .tuple _ => (by decide +kernel : kitB "tuple" "str" = some false)
  | .dict _ => (by decide +kernel : kitB "dict" "str" = some false)
theorem kit_tuple : ∀ d : Da, kitB (tyD d) "tuple" = some (isTy "tuple" d)
  | .none => (by decide +kernel : kitB "NoneType" "tuple" = some false)
  | .bool _ => (by decide +kernel : kitB "bool" "tuple" = some false)
  | .int _ => (by decide +kernel : kitB "int" "tuple" = some false)
  | .str _ => (by decide +kernel : kitB "str" "tuple" = some false)
  | .list _ => (by decide +kernel : kitB "list" "tuple" = some false)
  | .tuple _ => (by decide +kernel : kitB "tuple" "tuple" = some true)
  | .dict _ => (by decide +kernel : kitB "dict" "tuple" = some false)
def svOf : Rv → Option Sv := fun r => some (rsv r)
section
variable {P : Program} {w : World} {K : Fg} {mg : Str → Option Value} {base : Heap} {CX : CXT}
def ent (N : List Str) (rs : List Rv) (fu : Option Nat) : Gs := ⟨rs.map svOf ++ List.replicate (N.length - rs.length) none, fu, fu.isNone⟩
theorem Tm.len : ∀ {F : Hp} {a : Addr} {fu : Option Nat} {vs : List V} {rs : List Rv}, Tm K F a fu vs rs → vs.length = rs.length
  | _, _, _, _, _, .nil => rfl
  | _, _, _, _, _, .cons _ t => congrArg (· + 1) t.len
theorem Tm.get : ∀ {F : Hp} {a : Addr} {fu : Option Nat} {vs : List V} {rs : List Rv} {i : Nat} {r : Rv}, Tm K F a fu vs rs → rs[i]? = some r → ∃ v, vs[i]? = some v ∧ RvOk K F a fu v r
  | _, _, _, _, _, _, _, .nil, e => by simp at e
  | _, _, _, _, _, 0, _, .cons r _, e => by simp at e; subst e; exact ⟨_, rfl, r⟩
  | _, _, _, _, _, i + 1, r, .cons _ t, e => by
    obtain ⟨u, h1, h2⟩ := Tm.get (i := i) (r := r) t (by simpa using e)
    exact ⟨u, by simpa using h1, h2⟩
theorem sta_ent {N : List Str} {F H : Hp} {a : Addr} {fu : Option Nat} {vs : List V} {rs : List Rv} (e : Ex F H) (t : Tm K F a fu vs rs) (hs : ∀ n, fu = some n → F a = none ∧ SrcAt H a n) (tk : TabK K F H) :
    Sta K ⟨F, H, if fu = none then none else some a⟩ (ent N rs fu) (L2.start N vs) H [] [] F a := by
  have atS : ∀ (i : Nat) s, (ent N rs fu).sl[i]? = some (some s) → ∃ r, rs[i]? = some r ∧ s = rsv r := fun i s h => by
    have h' : (rs.map svOf ++ List.replicate (N.length - rs.length) none)[i]? = some (some s) := h
    by_cases hi : i < rs.length
    · rw [List.getElem?_append_left (by simpa using hi), List.getElem?_map, List.getElem?_eq_getElem hi] at h'
      cases h'
      exact ⟨_, List.getElem?_eq_getElem hi, rfl⟩
    · rw [List.getElem?_append_right (by simpa using hi), List.getElem?_replicate] at h'
      split at h' <;> cases h'
  have noO : ∀ (i : Nat) ds, (ent N rs fu).sl[i]? = some (some (.own ds)) → False := fun i ds h => by
    obtain ⟨r, _, e⟩ := atS i _ h
    cases r <;> cases e
  refine ⟨Ex.refl F, e, fun b o _ _ h => h, fun b h => .inl h, fun b h => ?_, fun h => ?_, fun n h => ?_, .nil, ?_, fun i s h => ?_, fun i j ds es _ h => (noO i ds h).elim, tk, .refl⟩
  · by_cases hf : fu = none
    · simp [hf] at h
    · simp [hf] at h
      exact ⟨h, hf⟩
  · have h' : fu = none := Option.isNone_iff_eq_none.mp h
    exact if_pos h'
  · have h' : fu = some n := h
    exact ⟨(hs n h').1, .inl (if_neg (ne_none h')), (hs n h').2⟩
  · unfold L2.start ent
    rw [List.length_append, List.length_append, List.length_map, List.length_map, t.len, List.length_replicate, List.length_replicate]
  · obtain ⟨r, h1, rfl⟩ := atS i s h
    obtain ⟨v, h2, h3⟩ := t.get h1
    have hi : i < vs.length := (List.getElem?_eq_some_iff.mp h2).1
    refine ⟨v, ?_, ?_⟩
    · unfold L2.start
      rw [List.getElem?_append_left (by simpa using hi), List.getElem?_map, h2]
      rfl
    · cases r <;> exact h3
/-- any wish: no rule of the body asks for one -/
def W0 : WX := fun _ _ _ _ => True
theorem fn_data {x qual : Str} {st : Stmt} {f : Addr} {fd : FuncData} {N ps : List Str} {k : Nat} {fs : FSp} (Fu : Fun K x qual st f fd) (S : FnScope N ps (defScope st)) (tb : DS)
    (hd : ∀ (cdv : Value) (A : Around) (outer : List Env) (s : Shared) (H : Hp) (E : XK), Room k (A.deeper (envOfC qual (defScope st) s.heap.objs.size f cdv)) → (A.deeper (envOfC qual (defScope st) s.heap.objs.size f cdv)).guards = some [] →
      PSs (cxOf CX P w K mg base N qual (defScope st) f cdv A outer s H E).nox (defBody st) (upS K W0 tb))
    (hb : ∀ rs fu post, rs.length = ps.length → fs rs fu post → tb ⟨fun g => post (.val .none) g.fu, fun r g => post r g.fu, fun _ => False, fun _ => False⟩ (ent N rs fu)) : Fn P w K mg base CX (k + 1) f fd ps (lift K ps.length fs) := by
  refine fn_by Fu S lift_len fun cdv A outer s H vs Q E hr hg h => ⟨_, (hd cdv A outer s H E hr hg).nox, ?_⟩
  obtain ⟨F, a, rs, fu, post, e, t, hl, hs, tk, hf, hq⟩ := h
  have st0 := sta_ent (N := N) e t hs tk
  have fin : ∀ {g : Gs} {σ : L2.St} {H' F' : Hp} {tv : List V} {tr : List Rv} {a' : Addr} {v : V} {r : Rr}, Sta K ⟨F, H, if fu = none then none else some a⟩ g σ H' tv tr F' a' → RrOk K F' H H' v r → Out K F H a fu g.fu F' H' v r := fun {g σ H' F' tv tr a' v r} s hr => by
    refine ⟨s.e0, s.eh, fun b o hb hn h => s.keep b o (fun z => ?_) hn h, s.new, fun hf => ?_, hr, s.tab, s.t0⟩
    · by_cases hf : fu = none
      · simp [hf] at z
      · simp [hf] at z
        exact hb hf z.symm
    · obtain ⟨e1, e2⟩ := s.ex a (if_neg hf)
      subst e1
      cases q : g.fu with
      | none => exact absurd q e2
      | some n => exact ⟨n, rfl, (s.src n q).1, (s.src n q).2.2⟩
  refine ⟨_, _, [], [], F, a, _, st0, rfl, hb rs fu post (by rw [← t.len]; exact hl) hf, ⟨fun g σ H' F' a' h s => ?_, fun g σ H' F' a' h s => h, fun g σ H' F' a' h s => h, fun x g σ v H' F' a' h s => ?_, fun ds g σ v H' F' a' h s n => ?_, fun nm z g σ H' F' a' cls dd h s ox => ?_⟩⟩
  · exact hq _ _ _ H' F' h (fin s (r := .val .none) Rp.non)
  · exact hq _ _ _ H' F' h (fin s (r := .val x) s.top)
  · obtain ⟨o, xs, q1, q2, q3, q4, q5, _⟩ := n.ex
    exact hq _ _ _ H' F' h (fin s (r := .own ds) ⟨o, xs, q1, q3, q2, q4, q5⟩)
  · exact True.intro
end
end Z
namespace Z
open L2 PySem PySem.Spec PyProof.Rows
open Evl (Ex ex_l ex_t ex_rd fresh_back)
/-- the table of the def that makes lambdas -/
def tabA (K : Fg) : List Addr := LAM.filterMap fun x => (PySem.W.tabIn K x).map Prod.snd
theorem tabA_of {K : Fg} {x : Str} {c P : Addr} (h1 : x ∈ LAM) (h2 : PySem.W.tabIn K x = some (c, P)) : P ∈ tabA K :=
  List.mem_filterMap.mpr ⟨x, h1, by rw [h2]; rfl⟩
theorem of_tabA {K : Fg} {P : Addr} (h : P ∈ tabA K) : ∃ x c, x ∈ LAM ∧ PySem.W.tabIn K x = some (c, P) := by
  obtain ⟨x, h1, h2⟩ := List.mem_filterMap.mp h
  cases r : PySem.W.tabIn K x with
  | none => rw [r] at h2; cases h2
  | some cp =>
    rw [r] at h2
    obtain ⟨c, P'⟩ := cp
    cases h2
    exact ⟨x, c, h1, r⟩
/-- what the making of lambdas asks of the base -/
def TbB (K : Fg) (mg : Str → Option Value) (base : Heap) : Prop := ∀ x c P, x ∈ LAM → PySem.W.tabIn K x = some (c, P) → LamX.TabB base mg c P
/-- what the end asks of the table -/
structure TbE (K : Fg) (mg : Str → Option Value) (h : Heap) : Prop where
  at' : ∀ x c P, x ∈ LAM → PySem.W.tabIn K x = some (c, P) → PySem.W.CodeHd h c P ∧ h.get? P = some (PySem.W.tabObj #[])
  no : ∀ x c P, x ∈ LAM → PySem.W.tabIn K x = some (c, P) → K.lookup P = none
  bm : ∃ (bm : Addr) (ob : Obj), mg "__builtins__" = some (.ref bm) ∧ bm ≠ builtinsNs ∧ h.get? bm = some ob ∧ ob.cls = .type "module" ∧ ob.dict = some builtinsNs ∧ ob.data = .plain
section
variable {P : Program} {w : World} {K : Fg} {mg mb : Str → Option Value} {k : Nat} {fa a : Addr} {fd : FuncData} {x : Str} {s₁ : Shared} {vs : List Value} {ns : List Int} {fs : FSp}
theorem end_at {F H : Hp} (KX : K.In s₁.heap) (hns : s₁.heap.Ns mainGlobals mg) (hb : s₁.heap.Ns builtinsNs mb) (hbb : ∀ x : Str, x ≠ "__name__" → mb x = bootBuiltins x) (hlim : s₁.heap.NoLimit) (hg : s₁.gens = #[])
    (ha : s₁.heap.get? a = some { cls := .type "list", data := .seq vs.toArray }) (hr : Room k callerA) (T : TbE K mg s₁.heap)
    (Fu : ∀ base : Heap, K.In base → base.Ns mainGlobals mg → TbB K mg base → Fn P w K mg base CX0 k fa fd [x] (lift K 1 fs)) (hbind : ∀ (s : Shared) (u : Value), BindsTo s fd ⟨[u], []⟩ [(x, u)])
    (hsp : fs [.scr ns] none fun r _ => r = .val (.bool true)) (hO : ∀ b, H b = none ∨ (b ∈ tabA K ∧ H b = some (.tbl #[])) ∨ ∃ ob xs, H b = some (.frz ob (.lst xs))) (hFH : Ex F H) (hFn : ∀ b, b ∈ tabA K → F b = none) (hH : ∀ b, b ∈ tabA K → H b = some (.tbl #[]))
    (hS : SqL K F a (ns.map V.int)) (hok : HOk P w H s₁.heap) (hA : ∀ b, H b ≠ none → b = a ∨ b ∈ tabA K) (hK : a ∉ tabA K → H a ≠ none → K.lookup a = none) :
    codeAny (model P w) callerA (.call (.ref fa) ⟨[.ref a], []⟩) (fun r s' => r = .ok (.ret (.bool true)) ∧ OldK s₁.heap s'.heap ∧ s'.os = s₁.os ∧ AllBare s'.gens) s₁ := by
  have tabAt : ∀ b, b ∈ tabA K → ∃ c, PySem.W.CodeHd s₁.heap c b ∧ s₁.heap.get? b = some (PySem.W.tabObj #[]) := fun b h => by
    obtain ⟨x, c, h1, h2⟩ := of_tabA h
    exact ⟨c, T.at' x c b h1 h2⟩
  have hide : ∀ {b : Addr} {o : Obj}, s₁.heap.get? b = some o → o.cls ≠ .none → (∀ vs n, o.data ≠ .seq vs n) → H b = none := fun {b o} e n1 n2 => by
    cases q : H b with
    | none => rfl
    | some u =>
      rcases hA b (ne_none q) with rfl | z
      · rw [ha] at e
        cases e
        exact absurd rfl (n2 _ _)
      · obtain ⟨_, _, z2⟩ := tabAt b z
        rw [e] at z2
        cases z2
        exact absurd rfl n1
  have hideD : ∀ {b : Addr} {o : Obj} {es : Array DictEntry} {ep : Nat}, s₁.heap.get? b = some o → o.data = .dict es ep → H b = none := fun {b o es ep} e d => by
    cases q : H b with
    | none => rfl
    | some u =>
      rcases hA b (ne_none q) with rfl | z
      · rw [ha] at e
        cases e
        cases d
      · obtain ⟨_, _, z2⟩ := tabAt b z
        rw [e] at z2
        cases z2
        cases d
  have nsK : ∀ {b : Addr} {m : Str → Option Value}, s₁.heap.Ns b m → (hidT s₁.heap H).Ns b m := fun {b m} z => by
    obtain ⟨o, es, ep, e, d, r⟩ := z
    exact ⟨o, es, ep, hidT_get e (hideD e d), d, r⟩
  have hKb : K.In (hidT s₁.heap H) := fun b o e => hidT_get (KX b o e) (by
    cases q : H b with
    | none => rfl
    | some u =>
      rcases hA b (ne_none q) with rfl | z
      · by_cases hz : b ∈ tabA K
        · obtain ⟨x, c, h1, h2⟩ := of_tabA hz
          rw [T.no x c b h1 h2] at e
          cases e
        · rw [hK hz (ne_none q)] at e
          cases e
      · obtain ⟨x, c, h1, h2⟩ := of_tabA z
        rw [T.no x c b h1 h2] at e
        cases e)
  have TB : TbB K mg (hidT s₁.heap H) := fun x c P' h1 h2 => by
    obtain ⟨hc, hP⟩ := T.at' x c P' h1 h2
    have dG : ∀ {b : Addr} {m : Str → Option Value}, s₁.heap.Ns b m → b ≠ P' := fun {b m} z e => by
      obtain ⟨o, es, ep, e1, d, _⟩ := z
      rw [e, hP] at e1
      cases e1
      cases d
    refine ⟨?_, ?_, dG hns⟩
    · obtain ⟨o, us, file, tf, flags, tg, inF, text, tt, e1, r1, r2, r3⟩ := hc
      exact ⟨o, us, file, tf, flags, tg, inF, text, tt, hidT_get e1 (hide e1 (by rw [r1]; exact fun z => nomatch z) fun vs n z => by rw [r2] at z; cases z), r1, r2, r3⟩
    · obtain ⟨bm, ob, b1, b2, b3, b4, b5, b6⟩ := T.bm
      refine ⟨bm, ob, b1, b2, fun e => ?_, fun e => ?_, hidT_get b3 (hide b3 (by rw [b4]; exact fun z => nomatch z) fun vs n z => by rw [b6] at z; cases z), b4, b5, b6⟩
      · obtain ⟨o, es, ep, e1, d, _⟩ := hns
        rw [e, e1] at b3
        cases b3
        rw [b6] at d
        cases d
      · rw [e, hP] at b3
        cases b3
        cases b4
  obtain ⟨mc, h1, h2⟩ := hlim
  have e0 : Env0 P w K mg (hidT s₁.heap H) callerA [] s₁ H :=
    { frames := rfl, mod := ⟨hKb, nsK hns, ⟨mb, nsK hb, hbb⟩, ⟨mc, nsK h1, h2⟩⟩, bs := fun b o e => of_hidT e, bsz := Nat.le_of_eq (hidT_size _ _), funs := trivial
      frf := fun b hb => absurd (show b ∈ ([] : List Addr) from hb) (by simp), hok := hok, bare := .of_eq hg }
  have pr : lift K 1 fs [.ref a] H (fun v _ => v = .bl true) fun _ _ _ => False :=
    ⟨F, a, [.scr ns], none, _, hFH, .cons ⟨a, rfl, hS⟩ .nil, rfl, fun n z => (by cases z), fun x c P' h1 h2 => ⟨⟨#[], hH P' (tabA_of h1 h2), trivial, fun pos cv hc => by have z : PySem.codeAmong pos [] = some cv := hc; simp [PySem.codeAmong] at z⟩, hFn P' (tabA_of h1 h2)⟩, hsp, fun r fu' v H' F' e o => by
      subst e
      have q : Rp K F' v (.bool true) := o.rep
      cases q
      rfl⟩
  refine codeAny_mono ((Fu _ hKb (nsK hns) TB).run callerA [] s₁ H ⟨[.ref a], []⟩ [.ref a] [.ref a] _ _ hr rfl e0 (hbind s₁ (.ref a)) (.cons rfl .nil) pr) fun r s' h => ?_
  match r, h with
  | .error e, h => exact False.elim h
  | .ok .next, h => exact False.elim h
  | .ok .brk, h => exact False.elim h
  | .ok .cont, h => exact False.elim h
  | .ok (.ret u), ⟨v, H', os, bare, un, hok', rv, q⟩ =>
    have q' : v = .bl true := q
    subst q'
    have ru : u = Value.bool true := rv
    subst ru
    have stay : ∀ b o, b ∉ tabA K → s₁.heap.get? b = some o → s'.heap.get? b = some o := fun b o nb e => by
      rcases hO b with z | ⟨z, _⟩ | ⟨ob, xs, z⟩
      · exact un.keep b o e z (fun z => absurd (show b ∈ ([] : List Addr) from z) (by simp)) (by simp)
      · exact absurd z nb
      · obtain ⟨e1, _⟩ := hok b _ z
        obtain ⟨e2, _⟩ := hok' b _ (un.frzs b ob _ z)
        rw [e] at e1
        cases e1
        exact e2
    have grew : ∀ b, b ∈ tabA K → ∃ more : Array Value, s'.heap.get? b = some { cls := .none, data := .fields more } := fun b hb => by
      obtain ⟨more, z⟩ := un.tbls b #[] (hH b hb)
      exact ⟨_, hok' b _ z⟩
    refine ⟨rfl, ⟨fun b o e => ?_, fun b o e => ?_⟩, os, bare⟩
    · by_cases hb : b ∈ tabA K
      · obtain ⟨c, z1, z2⟩ := tabAt b hb
        obtain ⟨more, z3⟩ := grew b hb
        rw [e] at z2
        cases z2
        exact .inr (.inl ⟨(z1.tab e).isCodeTable, rfl, #[], more, rfl, by rw [Array.empty_append]; exact z3⟩)
      · exact .inl (stay b o hb e)
    · by_cases hb : b ∈ tabA K
      · obtain ⟨more, z3⟩ := grew b hb
        exact ⟨_, z3⟩
      · exact ⟨o, stay b o hb e⟩
theorem end_call (KX : K.In s₁.heap) (hns : s₁.heap.Ns mainGlobals mg) (hb : s₁.heap.Ns builtinsNs mb) (hbb : ∀ x : Str, x ≠ "__name__" → mb x = bootBuiltins x) (hlim : s₁.heap.NoLimit) (hg : s₁.gens = #[])
    (ha : s₁.heap.get? a = some { cls := .type "list", data := .seq vs.toArray }) (hi : IntsAre vs ns) (hl : ns.length ≤ sizeLine) (hr : Room k callerA) (T : TbE K mg s₁.heap)
    (Fu : ∀ base : Heap, K.In base → base.Ns mainGlobals mg → TbB K mg base → Fn P w K mg base CX0 k fa fd [x] (lift K 1 fs)) (hbind : ∀ (s : Shared) (u : Value), BindsTo s fd ⟨[u], []⟩ [(x, u)])
    (hsp : fs [.scr ns] none fun r _ => r = .val (.bool true)) :
    codeAny (model P w) callerA (.call (.ref fa) ⟨[.ref a], []⟩) (fun r s' => r = .ok (.ret (.bool true)) ∧ OldK s₁.heap s'.heap ∧ s'.os = s₁.os ∧ AllBare s'.gens) s₁ := by
  have rv := vals_ints hi
  have aT : a ∉ tabA K := fun z => by
    obtain ⟨x, c, h1, h2⟩ := of_tabA z
    have := (T.at' x c a h1 h2).2
    rw [ha] at this
    cases this
  have tO : ∀ b, b ∈ tabA K → s₁.heap.get? b = some (PySem.W.tabObj #[]) := fun b z => by
    obtain ⟨x, c, h1, h2⟩ := of_tabA z
    exact (T.at' x c b h1 h2).2
  let tb : Hp := fun b => if b ∈ tabA K then some (.tbl #[]) else none
  have tbY : ∀ {b}, b ∈ tabA K → tb b = some (.tbl #[]) := fun h => if_pos h
  have tbN : ∀ {b}, b ∉ tabA K → tb b = none := fun h => if_neg h
  have tb_of : ∀ {b u}, tb b = some u → b ∈ tabA K ∧ u = .tbl #[] := fun {b u} h => by
    by_cases z : b ∈ tabA K
    · rw [tbY z] at h
      exact ⟨z, (Option.some.inj h).symm⟩
    · rw [tbN z] at h
      cases h
  cases hk : K.lookup a with
  | some o =>
    have e := KX a o hk
    rw [ha] at e
    cases e
    have sz : vs.toArray.size ≤ sizeLine := by rw [List.size_toArray, hi.length]; exact hl
    refine end_at (F := fun _ => none) (H := tb) KX hns hb hbb hlim hg ha hr T Fu hbind hsp (fun b => ?_) (fun b u z => by cases (show (none : Option HO) = some u from z)) (fun _ _ => rfl) (fun b z => tbY z) (.inr ⟨_, vs.toArray, _, hk, rfl, rfl, rfl, sz, by simpa using rv⟩) (fun b u z => ?_) (fun b z => ?_) fun _ z => absurd (tbN aT) z
    · by_cases z : b ∈ tabA K
      · exact .inr (.inl ⟨z, tbY z⟩)
      · exact .inl (tbN z)
    · obtain ⟨z1, rfl⟩ := tb_of z
      exact tO b z1
    · cases q : tb b with
      | none => exact absurd q z
      | some u => exact .inr (tb_of q).1
  | none =>
    let ob : Obj := { cls := .type "list", data := .seq vs.toArray }
    let sc : Hp := fun b => if b = a then some (HO.frz ob (.lst (ns.map V.int))) else none
    have scY : sc a = some (HO.frz ob (.lst (ns.map V.int))) := if_pos rfl
    have scN : ∀ {b}, b ≠ a → sc b = none := fun h => if_neg h
    have at_a : ∀ {b : Addr} {u : HO}, sc b = some u → b = a ∧ u = .frz ob (.lst (ns.map V.int)) := fun {b u} z => by
      by_cases h : b = a
      · rw [h, scY] at z
        exact ⟨h, (Option.some.inj z).symm⟩
      · rw [scN h] at z
        cases z
    have ne : ∀ {b}, b ∈ tabA K → b ≠ a := fun {b} z e => aT (by rw [← e]; exact z)
    let H : Hp := fun b => if b ∈ tabA K then some (.tbl #[]) else sc b
    have HY : ∀ {b}, b ∈ tabA K → H b = some (.tbl #[]) := fun h => if_pos h
    have HN : ∀ {b}, b ∉ tabA K → H b = sc b := fun h => if_neg h
    refine end_at (F := sc) (H := H) KX hns hb hbb hlim hg ha hr T Fu hbind hsp (fun b => ?_) (fun b u z => ?_) (fun b z => scN (ne z)) (fun b z => HY z) (.inl (.inr ⟨ob, scY⟩)) (fun b u z => ?_) (fun b z => ?_) fun _ _ => hk
    · by_cases z : b ∈ tabA K
      · exact .inr (.inl ⟨z, HY z⟩)
      · rw [HN z]
        by_cases h : b = a
        · exact .inr (.inr ⟨ob, _, by rw [h]; exact scY⟩)
        · exact .inl (scN h)
    · obtain ⟨rfl, rfl⟩ := at_a z
      rw [HN aT]
      exact z
    · by_cases z1 : b ∈ tabA K
      · rw [HY z1] at z
        cases z
        exact tO b z1
      · rw [HN z1] at z
        obtain ⟨rfl, rfl⟩ := at_a z
        exact ⟨ha, by rw [List.length_map]; exact hl, vs, _, rv, ha⟩
    · by_cases z1 : b ∈ tabA K
      · exact .inr z1
      · rw [HN z1] at z
        exact .inl (Classical.byContradiction fun h => z (scN h))
end
/-- the maker's table as the head leaves it -/
def TbH (K : Fg) (h : Heap) : Prop := ∀ x c P, x ∈ LAM → PySem.W.tabIn K x = some (c, P) → (PySem.W.CodeHd h c P ∧ h.get? P = some (PySem.W.tabObj #[])) ∧ K.lookup P = none
/-- of one def that makes lambdas -/
def TbH1 (K : Fg) (h : Heap) (x : Str) : Prop := ∀ c P, PySem.W.tabIn K x = some (c, P) → (PySem.W.CodeHd h c P ∧ h.get? P = some (PySem.W.tabObj #[])) ∧ K.lookup P = none
theorem tbH1_of {K : Fg} {h : Heap} {x : Str} {c P : Addr} (X : K.In h) (ht : PySem.W.tabIn K x = some (c, P)) (hc : PySem.W.codeHdIn K c P = true) (hn : K.lookup P = none) (hP : h.get? P = some (PySem.W.tabObj #[])) : TbH1 K h x := fun c' P' e2 => by
  rw [ht] at e2
  cases e2
  exact ⟨⟨PySem.W.codeHd_of_K X hc, hP⟩, hn⟩
theorem tbH_one {K : Fg} {h : Heap} {x : Str} (e : LAM = [x]) (t : TbH1 K h x) : TbH K h := fun y c P e1 => by
  rw [e, List.mem_singleton] at e1
  subst e1
  exact t c P
theorem end_of {l : PySem.W.OpenLaw} {n k : Nat} {q : Program} {loose : List Str} {XP : (Str → Option Value) → Heap → Prop} {YP : World → Heap → Prop} {d : DefRec} {K : Params → PySem.W.Frag} {fs : FSp} {x : Str}
    (hn : l.most = some n) (hn2 : n ≤ sizeLine) (hdf : d.params.defaults = []) (hr : Room k callerA) (hY : ∀ (w : World) (h : Heap), YP w h → (K w.params).In h)
    (Fu : ∀ (w : World) (mg : Str → Option Value) (fa : Addr) (h : Heap), YP w h → (K w.params).In h → h.Ns mainGlobals mg → mg d.name = some (.ref fa) →
      ∃ fd : FuncData, (∀ (s : Shared) (u : Value), BindsTo s fd ⟨[u], []⟩ [(x, u)]) ∧ TbH (K w.params) h ∧ ∀ base : Heap, (K w.params).In base → base.Ns mainGlobals mg → TbB (K w.params) mg base → Fn l.prog w (K w.params) mg base CX0 k fa fd [x] (lift (K w.params) 1 fs))
    (hsp : ∀ ns : List Int, ns.length ≤ n → fs [.scr ns] none fun r _ => r = .val (.bool true)) : PySem.W.WalkO q loose XP YP l.row.toRowW d [] (fun f vs => PySem.call f vs) := by
  refine Att.attach_call hn hdf fun w s₀ s₁ mg mb fa o pm cd doc a vs ns G Y ho hd hcd hmg hobj hints hlen hg => ?_
  obtain ⟨fd, hb, hT, hF⟩ := Fu w mg fa _ Y (hY w _ Y) G.T.g hmg
  exact end_call (hY w _ Y) G.T.g G.T.b G.T.builtins G.T.nolimit hg hobj hints (Nat.le_trans hlen hn2) hr ⟨fun x c P e1 e2 => (hT x c P e1 e2).1, fun x c P e1 e2 => (hT x c P e1 e2).2, G.T.bmain⟩ hF hb (hsp ns hlen)
end Z
namespace Z
open L2 PySem PySem.Spec PyProof.Rows
open Evl (Ex ex_l ex_t ex_rd fresh_back)
variable {Wx : WX}
def SrcD (ds : List Da) (n : Nat) : Prop := ∃ x y z : Int, ds = [.int x, .int y, .int z] ∧ 0 ≤ x ∧ x < 2 ^ 1000 ∧ 0 ≤ y ∧ y < modS ∧ 0 ≤ z ∧ z + n ≤ 2 ^ 40
def noSrc : Option Sv → Option Sv
  | some .src => none
  | x => x
/-- x = a new source, good for n draws -/
def dSetS (n i : Nat) (tl : DL) : DS := fun d g => g.ow = true ∧ tl g fun ds g1 => g1.ow = true ∧ SrcD ds n ∧ d.nx ⟨(g1.sl.map noSrc).set i (some .src), some n, true⟩
section
variable {K : Fg} {c : Con} {g : Gs} {σ : L2.St} {H F H' F' : Hp} {tv : List V} {tr : List Rv} {a : Addr}
theorem Rps.three {xs : List V} {x y z : Int} (h : Rps K F xs [.int x, .int y, .int z]) : xs = [.int x, .int y, .int z] := by
  cases h with
  | cons h1 h =>
    cases h with
    | cons h2 h =>
      cases h with
      | cons h3 h =>
        cases h
        cases h1
        cases h2
        cases h3
        rfl
theorem SrcD.at {ds : List Da} {n : Nat} (h : SrcD ds n) {o : Addr} {xs : List V} (hH : H o = some (.lst xs)) (m : Rps K F xs ds) : SrcAt H o n := by
  obtain ⟨x, y, z, rfl, h⟩ := h
  rw [m.three] at hH
  exact ⟨x, y, z, hH, h⟩
theorem noSrc_some {sl : List (Option Sv)} {i : Nat} {s : Sv} (h : (sl.map noSrc)[i]? = some (some s)) : sl[i]? = some (some s) ∧ s ≠ .src := by
  rw [List.getElem?_map] at h
  cases q : sl[i]? with
  | none => rw [q] at h; cases h
  | some x =>
    rw [q] at h
    have h3 : noSrc x = some s := Option.some.inj h
    cases x with
    | none => cases h3
    | some y => cases y <;> first | (cases h3; exact ⟨rfl, fun z => nomatch z⟩) | cases h3
theorem Sta.setSrc (s : Sta K c g σ H tv tr F a) {v : V} {ds : List Da} {n : Nat} (h : NewL K c g σ H F a v ds) (hs : SrcD ds n) (how : g.ow = true) (hn : hasSrc tr = false) (i : Nat) :
    ∃ o, Sta K c ⟨(g.sl.map noSrc).set i (some .src), some n, true⟩ (σ.set i (some v)) H tv tr F o := by
  obtain ⟨o, xs, rfl, q2, q3, q4, q5, q6, q7⟩ := h.ex
  have e0 := s.ow how
  refine ⟨o, s.e0, s.eh, s.keep, s.new, fun b z => by (rw [e0] at z; cases z), fun _ => e0, fun m hm => ?_, ?_, ?_, fun j sv hj => ?_, fun j k es fs hjk hj hk => ?_, s.t0, s.tab⟩
  · cases hm
    exact ⟨q2, .inr ⟨e0, q3⟩, hs.at q4 q5⟩
  · have t0 : Tm K F o none tv tr := by
      have t1 := s.tmp.noSrc hn
      clear s h
      induction t1 with
      | nil => exact .nil
      | @cons v vs r rs h t ih =>
        cases r with
        | val d => exact .cons (show Rp K F v d from h) (ih hn)
        | scr ns => exact .cons h (ih hn)
        | ob k => exact .cons h (ih hn)
        | src => cases hn
    exact Tm.refu (fu' := some n) (fun z => nomatch z) t0
  · rw [List.length_set, List.length_set, List.length_map]; exact s.len
  · rcases set_some hj with ⟨rfl, hl, e⟩ | ⟨ne, e⟩
    · cases e
      rw [List.length_map] at hl
      exact ⟨_, List.getElem?_set_self (by rw [s.len]; exact hl), rfl, fun z => nomatch z⟩
    · obtain ⟨e1, e2⟩ := noSrc_some e
      obtain ⟨w, h1, h2⟩ := s.slot j sv e1
      refine ⟨w, by rw [List.getElem?_set_ne (Ne.symm ne)]; exact h1, ?_⟩
      cases sv with
      | val d => exact h2
      | src => exact absurd rfl e2
      | scr ns => exact h2
      | ob k => exact h2
      | own es =>
        obtain ⟨p, ys, r1, r2, r3, r4, r5, r6⟩ := h2
        exact ⟨p, ys, r1, r2, r3, r4, r5, fun _ z => q7 j es e1 (by rw [h1, r1, z])⟩
  · have no : ∀ k fs, ((g.sl.map noSrc).set i (some Sv.src))[k]? = some (some (Sv.own fs)) → k ≠ i ∧ g.sl[k]? = some (some (Sv.own fs)) := fun k fs h => by
      rcases set_some h with ⟨_, _, e⟩ | ⟨z, e⟩
      · cases e
      · exact ⟨z, (noSrc_some e).1⟩
    obtain ⟨n1, e1⟩ := no j es hj
    obtain ⟨n2, e2⟩ := no k fs hk
    rw [List.getElem?_set_ne (Ne.symm n1), List.getElem?_set_ne (Ne.symm n2)]
    exact s.dis j k es fs hjk e1 e2
end
section
variable {X : Cx} {e : Expr} {tl : DL} {pos : Pos}
theorem s_setS (n : Nat) {i : Nat} {x : Str} {pos' : Pos} (hN : X.N.Nodup) (hi : X.N[i]? = some x) (hx : L2.Loc X.env.scope x) (he : PE X e (upL X.K tl)) (h1 : swapsWith e (some (.Name x pos')) pos.line X.env = pure false := by rfl)
    (hf : X.fn x = true ∨ X.env.scope.names.lookup x = some .local := by first | exact .inl rfl | exact .inr rfl) : PS X (.Assign [.Name x pos'] e pos) (upS X.K Wx (dSetS n i tl)) := ps_to (ps_set hN hi hx he h1 hf) fun D σ H q => by
  obtain ⟨c, g, tv, tr, F, a, d, s, hn, t, k⟩ := q
  refine ⟨c, g, tv, tr, F, a, _, s, t.2, fun ds g1 v H1 F1 a1 t1 s1 n1 => ?_⟩
  obtain ⟨o, s2⟩ := s1.setSrc n1 t1.2.1 t1.1 hn i
  exact k.nx _ _ H1 F1 o t1.2.2 s2
variable {CX : CXT} {k : Nat} {f : Addr} {fd : FuncData} {ps : List Str} {fs : FSp} {x : Str} {p : Pos} {es : List Expr} {np : Nat} {E : XK} {vs : List V} {rs : List Rv}
end
section
variable {X : Cx} {x : Str} {p pos : Pos} {e e2 : Expr} {tr : DA}
theorem e_len (hg : Gl X "len") (hm : X.mg "len" = none) (ha : PA X [e] (upA X.K tr)) (he : starEach [e] X.env = (false, eval e X.env) :: starEach [] X.env := by rfl) : PE X (.Call (.Name "len" p) [e] [] pos) (up X.K (dCB cLen tr)) := e_callB call_len ok_len hg hm PySem.boot_len ha (by decide) (by decide) he rfl
theorem e_abs (hg : Gl X "abs") (hm : X.mg "abs" = none) (ha : PA X [e] (upA X.K tr)) (he : starEach [e] X.env = (false, eval e X.env) :: starEach [] X.env := by rfl) : PE X (.Call (.Name "abs" p) [e] [] pos) (up X.K (dCB (cInt1 fun i => if i < 0 then -i else i) tr)) := e_callB call_abs ok_int1 hg hm (by decide +kernel) ha (by decide) (by decide) he rfl
theorem e_min (hc : X.calm = true) (hg : Gl X "min") (hm : X.mg "min" = none) (ha : PA X [e, e2] (upA X.K tr)) (he : starEach [e, e2] X.env = (false, eval e X.env) :: starEach [e2] X.env := by rfl) (hpl : (backTo pos (starEach [e2] X.env)).any (·.1) = false := by rfl) :
    PE X (.Call (.Name "min" p) [e, e2] [] pos) (up X.K (dCB (cInt2 fun i j => if j < i then j else i) tr)) := e_callB (call_min2 hc) ok_int2 hg hm (by decide +kernel) ha (by decide) (by decide) he hpl
theorem e_all (hc : X.calm = true) (hg : Gl X "all") (hm : X.mg "all" = none) (ha : PA X [e] (upA X.K tr)) (he : starEach [e] X.env = (false, eval e X.env) :: starEach [] X.env := by rfl) : PE X (.Call (.Name "all" p) [e] [] pos) (up X.K (dCB cAll tr)) := e_callB (cr_all hc) ok_all hg hm (by decide +kernel) ha (by decide) (by decide) he rfl
theorem e_tuple (hg : Gl X "tuple") (hm : X.mg "tuple" = none) (ha : PA X [e] (upA X.K tr)) (he : starEach [e] X.env = (false, eval e X.env) :: starEach [] X.env := by rfl) : PE X (.Call (.Name "tuple" p) [e] [] pos) (up X.K (dCB cTuple tr)) := e_callTy call_tuple_of ok_tuple hg hm (by decide +kernel) ha (by decide) (by decide) he rfl
theorem e_glob {v : V} {u : Value} {d : Da} (hg : Gl X x) (hm : X.mg x = some u) (r : RelV v u) (hr : ∀ F, Rp X.K F v d) (hd : (x == ("__debug__" : Str)) = false := by decide) : PE X (.Name x pos) (up X.K (dC d)) := e_c (pe_glob hg hm r hd) hr
theorem c_ty {T : String} (hg : Gl X x) (hm : X.mg x = none) (hv : bootBuiltins x = some (.type T)) (hn : x ≠ "__name__" := by decide) (hd : (x == ("__debug__" : Str)) = false := by decide) : PE X (.Name x pos) (tC (.ty T)) := pe_bltn hg hm hv rfl hn hd
end
end Z
namespace Z
open L2 PySem PySem.Spec PyProof.Rows
open Evl (Ex ex_l ex_t ex_rd fresh_back)
abbrev oSub : BinF := fI0 fun i j => .int (i - j)
abbrev oAddI : BinF := fI0 fun i j => .int (i + j)
abbrev oMul : BinF := fI CMulX fun i j => .int (i * j)
abbrev oDiv : BinF := fI CDivW fun i j => .int (i / j)
abbrev oMod : BinF := fI (fun _ j => 0 < j) fun i j => .int (i % j)
abbrev oShl : BinF := fI CShl fun i j => .int (i * 2 ^ j.toNat)
abbrev oPow : BinF := fI CPowX fun i j => .int (i ^ j.toNat)
abbrev oLt : BinF := fI0 fun i j => .bool (decide (i < j))
abbrev oLe : BinF := fI0 fun i j => .bool (decide (i ≤ j))
abbrev oGt : BinF := fI0 fun i j => .bool (decide (j < i))
abbrev oGe : BinF := fI0 fun i j => .bool (decide (j ≤ i))
abbrev oAbs : CF := cInt1 fun i => if i < 0 then -i else i
abbrev oMin : CF := cInt2 fun i j => if j < i then j else i
theorem test_core {K : Fg} {t : DE} {σ : L2.St} {H : Hp} {Q : Bool → Hp → Prop} (q : upT K (dTest t) σ H Q) : up K t σ H fun x H1 => ∃ k, x = .bl k ∧ Q k H1 := by
  obtain ⟨c, g, tv, tr, F, ad, post, s, t1, k⟩ := q
  refine ⟨c, g, tv, tr, F, ad, _, s, t1, fun r g1 v1 H1 F1 a1 h1 s1 => ?_⟩
  cases r with
  | val d =>
    cases d with
    | bool b => exact ⟨b, s1.top.bl rfl, k b g1 H1 F1 a1 h1 s1.pop1⟩
    | _ => exact h1.elim
  | _ => exact h1.elim
section
variable {X : Cx} {a b c : Expr} {ta tb tc : DE} {pos : Pos}
theorem t_cmp {op : CmpOp} {r : R2} {f : BinF} (ho : OpR X (compareOp op) r) (hf : BinOk X.K r f) (ha : PE X a (up X.K ta)) (hb : PE X b (up X.K tb)) (hm : behindInMarks op b = false) : PT X (.Compare a [op] [b] pos) (upT X.K (dTest (dBin f ta tb))) :=
  pt_to (pt_cmpR ho ha hb hm) fun σ H Q q => bin_core hf σ H _ (test_core q)
theorem t_lt (ha : PE X a (up X.K ta)) (hb : PE X b (up X.K tb)) : PT X (.Compare a [.Lt] [b] pos) (upT X.K (dTest (dBin oLt ta tb))) := t_cmp op_lt ok_I0b ha hb (nomark _)
theorem t_gt (ha : PE X a (up X.K ta)) (hb : PE X b (up X.K tb)) : PT X (.Compare a [.Gt] [b] pos) (upT X.K (dTest (dBin oGt ta tb))) := t_cmp op_gt ok_I0b ha hb (nomark _)
theorem t_ge (ha : PE X a (up X.K ta)) (hb : PE X b (up X.K tb)) : PT X (.Compare a [.GtE] [b] pos) (upT X.K (dTest (dBin oGe ta tb))) := t_cmp op_ge ok_I0b ha hb (nomark _)
theorem t_eq (hu : X.A.units + 64 < cLine) (ha : PE X a (up X.K ta)) (hb : PE X b (up X.K tb)) : PT X (.Compare a [.Eq] [b] pos) (upT X.K (dTest (dBin fEq ta tb))) :=
  t_cmp (op_eqD hu) (fun F H x y d e post Q hx r1 r2 hf k => ⟨d, e, r1.dp hx d x (shaped_lay hf.1), r2.dp hx e y (shaped_lay hf.2.1), hf.1, hf.2.1, k _ _ H F hf.2.2 (Gr.refl hx) (.bl _)⟩) ha hb (nomark _)
theorem t_ne (hu : X.A.units + 64 < cLine) (ha : PE X a (up X.K ta)) (hb : PE X b (up X.K tb)) : PT X (.Compare a [.NotEq] [b] pos) (upT X.K (dTest (dBin fNe ta tb))) :=
  t_cmp (op_neD hu) (fun F H x y d e post Q hx r1 r2 hf k => ⟨d, e, r1.dp hx d x (shaped_lay hf.1), r2.dp hx e y (shaped_lay hf.2.1), hf.1, hf.2.1, k _ _ H F hf.2.2 (Gr.refl hx) (.bl _)⟩) ha hb (nomark _)
theorem t_notin (ha : PE X a (up X.K ta)) (hb : PE X b (up X.K tb)) (hm : behindInMarks .NotIn b = false := by rfl) : PT X (.Compare a [.NotIn] [b] pos) (upT X.K (dTest (dBin (fIn true) ta tb))) := t_cmp op_notIn_seq ok_in ha hb hm
theorem isn_core {neg : Bool} {σ : L2.St} {H : Hp} {Q : VK} (q : up X.K (dIsN neg ta) σ H Q) : up X.K ta σ H fun x H1 => Q (.bl (if neg then !decide (x = .non) else decide (x = .non))) H1 := by
  obtain ⟨c, g, tv, tr, F, ad, post, s, t1, k⟩ := q
  refine ⟨c, g, tv, tr, F, ad, _, s, t1, fun r g1 v1 H1 F1 a1 h1 s1 => ?_⟩
  cases r with
  | val d =>
    have hr : Rp X.K F1 v1 d := s1.top
    rw [non_v hr]
    exact k _ g1 _ H1 F1 a1 h1 (s1.pop1.push (r := .val (.bool _)) (Rp.bl _))
  | _ => exact h1.elim
theorem t_isN {j : Nat} {pos' : Pos} (ha : PE X a (up X.K ta)) : PT X (.Compare a [.Is] [.Constant .none j pos'] pos) (upT X.K (dTest (dIsN false ta))) := pt_to (pt_cmpR op_isN ha pe_non (nomark _)) fun σ H Q q => by
  obtain ⟨c, g, tv, tr, F, ad, post, s, t1, k⟩ := isn_core (test_core q)
  exact ⟨c, g, tv, tr, F, ad, post, s, t1, fun r g1 v1 H1 F1 a1 h1 s1 => ⟨rfl, k r g1 v1 H1 F1 a1 h1 s1⟩⟩
theorem t_notN {j : Nat} {pos' : Pos} (ha : PE X a (up X.K ta)) : PT X (.Compare a [.IsNot] [.Constant .none j pos'] pos) (upT X.K (dTest (dIsN true ta))) := pt_to (pt_cmpR op_notN ha pe_non (nomark _)) fun σ H Q q => by
  obtain ⟨c, g, tv, tr, F, ad, post, s, t1, k⟩ := isn_core (test_core q)
  exact ⟨c, g, tv, tr, F, ad, post, s, t1, fun r g1 v1 H1 F1 a1 h1 s1 => ⟨rfl, k r g1 v1 H1 F1 a1 h1 s1⟩⟩
theorem t_lele (ha : PE X a (up X.K ta)) (hb : PE X b (up X.K tb)) (hc : PE X c (up X.K tc)) (hm : lastMarks [.LtE, .LtE] [b, c] = false := by with_unfolding_all rfl) : PT X (.Compare a [.LtE, .LtE] [b, c] pos) (upT X.K (dTest (dChain oLe oLe ta tb tc))) := pt_to (pt_chain op_le op_le ha hb hc hm) fun _ _ _ q => chain_core ok_I0b ok_I0b (test_core q)
end
/-- a pair of ints -/
abbrev num (n d : Int) : Da := .tuple [.int n, .int d]
theorem atI_0 {α : Type} {x0 : α} {xs : List α} : atI (x0 :: xs) 0 = some x0 := by
  unfold atI ixN
  rw [if_pos (by decide), if_pos (by simp only [List.length_cons]; omega)]
  rfl
theorem atI_1 {α : Type} {x0 x1 : α} {xs : List α} : atI (x0 :: x1 :: xs) 1 = some x1 := by
  unfold atI ixN
  rw [if_pos (by decide), if_pos (by simp only [List.length_cons]; omega)]
  rfl
theorem atI_2 {α : Type} {x0 x1 x2 : α} {xs : List α} : atI (x0 :: x1 :: x2 :: xs) 2 = some x2 := by
  unfold atI ixN
  rw [if_pos (by decide), if_pos (by simp only [List.length_cons]; omega)]
  rfl
theorem atI_3 {α : Type} {x0 x1 x2 x3 : α} {xs : List α} : atI (x0 :: x1 :: x2 :: x3 :: xs) 3 = some x3 := by
  unfold atI ixN
  rw [if_pos (by decide), if_pos (by simp only [List.length_cons]; omega)]
  rfl
theorem atI_4 {α : Type} {x0 x1 x2 x3 x4 : α} {xs : List α} : atI (x0 :: x1 :: x2 :: x3 :: x4 :: xs) 4 = some x4 := by
  unfold atI ixN
  rw [if_pos (by decide), if_pos (by simp only [List.length_cons]; omega)]
  rfl
theorem atI_5 {α : Type} {x0 x1 x2 x3 x4 x5 : α} {xs : List α} : atI (x0 :: x1 :: x2 :: x3 :: x4 :: x5 :: xs) 5 = some x5 := by
  unfold atI ixN
  rw [if_pos (by decide), if_pos (by simp only [List.length_cons]; omega)]
  rfl
theorem eqv_ii (i j : Int) : (PyData.int i).eqv (.int j) = decide (i = j) := by
  simp only [PyData.eqv]
  rw [Bool.eq_iff_iff]
  simp
theorem eqv_ss (x y : Str) : (PyData.str x).eqv (.str y) = decide (x = y) := by
  simp only [PyData.eqv]
  rw [Bool.eq_iff_iff]
  simp
theorem eqv_num (a b c d : Int) : (PyData.tuple [.int a, .int b]).eqv (.tuple [.int c, .int d]) = (decide (a = c) && decide (b = d)) := by
  simp only [PyData.eqv, PyData.eqvAll]
  rw [Bool.eq_iff_iff]
  simp
theorem shaped_int (i : Int) : SeqAt.shaped (.int i) = true := rfl
theorem shaped_num (i j : Int) : SeqAt.shaped (.tuple [.int i, .int j]) = true := rfl
theorem shaped_none : SeqAt.shaped .none = true := rfl
theorem flat_str (x : Str) : flatD (.str x) = true := rfl
theorem flat_int (x : Int) : flatD (.int x) = true := rfl
theorem flat_none : flatD .none = true := rfl
/-- less than n bits -/
structure Bn (n : Nat) (i : Int) : Prop where
  lt : i.natAbs < 2 ^ n
theorem bits_lt {i : Int} {n : Nat} (h : Bn n i) : Builtin.Int.intBits i ≤ n := by
  unfold Builtin.Int.intBits
  split
  · exact Nat.zero_le _
  · rename_i h0
    have h1 : i ≠ 0 := fun z => h0 (by rw [z]; rfl)
    have : i.natAbs.log2 < n := (Nat.log2_lt (by omega)).mpr h.lt
    omega
theorem Bn.mono {n m : Nat} {i : Int} (h : Bn n i) (hm : n ≤ m) : Bn m i := ⟨Nat.lt_of_lt_of_le h.lt (Nat.pow_le_pow_right (by decide) hm)⟩
theorem Bn.le {n : Nat} {i j : Int} (h : Bn n j) (h0 : 0 ≤ i) (h1 : i ≤ j) : Bn n i := ⟨by have := h.lt; omega⟩
theorem Bn.mul {a b : Nat} {i j : Int} (ha : Bn a i) (hb : Bn b j) : Bn (a + b) (i * j) := ⟨by
  rw [Int.natAbs_mul, Nat.pow_add]
  exact Nat.mul_lt_mul'' ha.lt hb.lt⟩
theorem Bn.add {a : Nat} {i j : Int} (ha : Bn a i) (hb : Bn a j) : Bn (a + 1) (i + j) := ⟨by
  have h1 := ha.lt
  have h2 := hb.lt
  have h3 := Int.natAbs_add_le i j
  rw [Nat.pow_succ]
  omega⟩
theorem Bn.pow2 {n m : Nat} (h : n < m) : Bn m ((2 : Int) ^ n) := ⟨by
  rw [Int.natAbs_pow]
  exact Nat.pow_lt_pow_right (by decide) h⟩
theorem Bn.small {m : Nat} {i : Int} (h1 : -18446744073709551616 < i) (h2 : i < 18446744073709551616) (hm : 64 ≤ m) : Bn m i := by
  have e : (2 : Nat) ^ 64 = 18446744073709551616 := by decide
  exact Bn.mono (n := 64) ⟨by rw [e]; omega⟩ hm
theorem mulX {i j : Int} (a b : Nat) (ha : Bn a i) (hb : Bn b j) (h : a + b ≤ 134217728) : CMulX i j := by
  have h1 := bits_lt ha
  have h2 := bits_lt hb
  unfold CMulX
  omega
theorem shlX {i j : Int} (a : Nat) (ha : Bn a i) (h0 : 0 ≤ j) (h : (a : Int) + j ≤ 134217728) : CShl i j := by
  have h1 := bits_lt ha
  refine ⟨h0, ?_⟩
  have e : (2 : Int) ^ 27 = 134217728 := by decide
  rw [e]
  omega
theorem divX {i j : Int} (b : Nat) (h0 : 0 < j) (hb : Bn b j) (h9 : b ≤ 9000) : CDivW i j := wide_div h0 (Bn.mono hb h9).lt (by decide) (Nat.le_refl _)
theorem pow2_pos (n : Nat) : (0 : Int) < 2 ^ n := Int.pow_pos (by decide)
theorem shlB {i : Int} {a n : Nat} (ha : Bn a i) : Bn (a + n + 1) (i * 2 ^ n) := by
  have := ha.mul (Bn.pow2 (n := n) (m := n + 1) (by omega))
  exact this.mono (by omega)
end Z
namespace Z
open L2 PySem PySem.Spec PyProof.Rows
theorem forD_inv {t : DG} {tb : DS} {d : DEnds} (I : Gs → Prop) : ∀ {ds : List Da} {g : Gs}, (∀ x ∈ ds, ∀ g, I g → ∀ N : Gs → Prop, (∀ g', I g' → N g') → t (.val x) g fun g1 => tb { d with nx := N, ct := N, bk := d.nx } g1) → (∀ g, I g → d.nx g) → I g → forD t tb ds d g
  | [], g, _, hd, h => hd g h
  | x :: xs, g, hs, hd, h => hs x List.mem_cons_self g h (forD t tb xs d) fun g' h' => forD_inv I (fun y hy => hs y (List.mem_cons_of_mem _ hy)) hd h'
/-- by the number of turns gone -/
theorem forD_ix {t : DG} {tb : DS} {d : DEnds} (I : Nat → Gs → Prop) : ∀ {ds : List Da} {g : Gs} {k : Nat}, (∀ (i : Nat) x, ds[i]? = some x → ∀ g, I (k + i) g → ∀ N : Gs → Prop, (∀ g', I (k + i + 1) g' → N g') → t (.val x) g fun g1 => tb { d with nx := N, ct := N, bk := d.nx } g1) →
    (∀ g, I (k + ds.length) g → d.nx g) → I k g → forD t tb ds d g
  | [], g, k, _, hd, h => hd g h
  | x :: xs, g, k, hs, hd, h => hs 0 x rfl g h (forD t tb xs d) fun g' h' => forD_ix I (k := k + 1) (fun i y hy g2 h2 N hN => hs (i + 1) y (by simpa using hy) g2 (by rw [show k + (i + 1) = k + 1 + i by omega]; exact h2) N (fun g3 h3 => hN g3 (by rw [show k + 1 + i + 1 = k + (i + 1) + 1 by omega]; exact h3)))
      (fun g2 h2 => hd g2 (by rw [List.length_cons, show k + (xs.length + 1) = k + 1 + xs.length by omega]; exact h2)) h'
theorem fuN_self (fu : Option Nat) : fuN fu fu = fu := by cases fu <;> rfl
/-- a comprehension whose element is a plain function of the item -/
theorem lc_map {sl : List (Option Sv)} {i : Nat} {te : DE} (f : Da → Da) {Q : List Da → Option Nat → Prop} {fu : Option Nat} : ∀ {ds acc : List Da},
    (∀ x ∈ ds, ∀ R : Rv → Gs → Prop, (∀ g3 : Gs, g3.fu = fu → R (.val (f x)) g3) → te (Gs.set ⟨sl, fu, false⟩ i (.val x)) R) → acc.length + ds.length ≤ 1000000 → Q (acc ++ ds.map f) fu → lcD sl (dN i) dYes te ds acc fu Q
  | [], acc, _, _, h => by rw [List.map_nil, List.append_nil] at h; exact h
  | x :: xs, acc, hs, hl, h => by
    refine ⟨fun _ => hs x List.mem_cons_self _ fun g3 e => ⟨?_, ?_⟩, fun z => nomatch z⟩
    · rw [List.length_cons] at hl; omega
    · rw [e, fuN_self]
      refine lc_map f (fun y hy => hs y (List.mem_cons_of_mem _ hy)) ?_ ?_
      · rw [List.length_cons] at hl
        rw [List.length_append, List.length_cons, List.length_nil]
        omega
      · rw [List.append_assoc]
        exact h
theorem gcd_step {a b : Int} (ha : 0 ≤ a) (hb : 0 < b) : Int.gcd b (a % b) = Int.gcd a b := by
  obtain ⟨n, rfl⟩ := Int.eq_ofNat_of_zero_le ha
  obtain ⟨m, rfl⟩ := Int.eq_ofNat_of_zero_le (Int.le_of_lt hb)
  rw [← Int.natCast_emod, Int.gcd_natCast_natCast, Int.gcd_natCast_natCast, Nat.gcd_comm n m, Nat.gcd_rec m n, Nat.gcd_comm]
theorem gcd_pos {a b : Int} (hb : 0 < b) : 0 < (Int.gcd a b : Int) := by
  have := Int.gcd_pos_of_ne_zero_right a (show b ≠ 0 by omega)
  omega
theorem gcd_le {a b : Int} (hb : 0 < b) : (Int.gcd a b : Int) ≤ b := by
  have h : (Int.gcd a b : Int) ∣ b := Int.gcd_dvd_right a b
  exact Int.le_of_dvd hb h
def low (n d : Int) : Int × Int := (n / Int.gcd n d, d / Int.gcd n d)
def lowD (n d : Int) : Da := num (low n d).1 (low n d).2
def bl (i : Int) : Int := (Builtin.Int.intBits i : Nat)
/-- times 2 ** f, as two ints -/
def scI (n d f : Int) : Int × Int := (n * 2 ^ f.toNat, d * 2 ^ (-f).toNat)
def powI (k e : Int) : Int × Int := low (scI k 1 e).1 (scI k 1 e).2
def cellI (n d w : Int) : Int × Int :=
  if 2 ^ w.toNat ≤ (scI n d (0 - (bl n - bl d - w))).1 / (scI n d (0 - (bl n - bl d - w))).2 then ((scI n d (0 - (bl n - bl d - w + 1))).1 / (scI n d (0 - (bl n - bl d - w + 1))).2, bl n - bl d - w + 1)
  else ((scI n d (0 - (bl n - bl d - w))).1 / (scI n d (0 - (bl n - bl d - w))).2, bl n - bl d - w)
def posI (n d w : Int) : Int × Int :=
  low ((scI n d (0 - (cellI n d w).2)).1 - (cellI n d w).1 * (scI n d (0 - (cellI n d w).2)).2) (scI n d (0 - (cellI n d w).2)).2
/-- the six rules -/
inductive Ru where | dn | hd | he | hu | od | up
  deriving DecidableEq
def Ru.s : Ru → Str
  | .dn => "down"
  | .hd => "half_down"
  | .he => "half_even"
  | .hu => "half_up"
  | .od => "odd"
  | .up => "up"
theorem shaped_ru (r : Ru) : SeqAt.shaped (.str r.s) = true := by cases r <;> decide +kernel
abbrev nm (p : Int × Int) : Da := num p.1 p.2
end Z
namespace Z
open L2 PySem PySem.Spec PyProof.Rows
theorem scI_pos {n d f : Int} (hn : 0 < n) (hd : 0 < d) : 0 < (scI n d f).1 ∧ 0 < (scI n d f).2 := ⟨Int.mul_pos hn (pow2_pos _), Int.mul_pos hd (pow2_pos _)⟩
end Z
namespace Z
open L2 PySem PySem.Spec PyProof.Rows
open Evl (Ex ex_l ex_t ex_rd fresh_back)
mutual
/-- at most so long is its text -/
def szD : Da → Nat
  | .none => 4
  | .bool _ => 5
  | .int _ => 1921
  | .str x => 10 * x.length + 2
  | .list xs => szAll xs + 3
  | .tuple xs => szAll xs + 3
  | .dict _ => 0
def szAll : List Da → Nat
  | [] => 0
  | x :: xs => szD x + 2 + szAll xs
end
theorem strOk_small {x : Str} (h : PyData.strOk x = true) : ∀ c ∈ x.cps.toList, c < 16 ^ 8 := fun c hc => by
  unfold PyData.strOk at h
  rw [Array.all_eq_true_iff_forall_mem] at h
  have h1 := h c (by simpa using hc)
  have h2 : c < 0x110000 := of_decide_eq_true h1
  exact Nat.lt_trans h2 (by decide)
mutual
theorem szD_ok : ∀ d : Da, d.canLay0 = true → d.showable = true → d.shown.length ≤ szD d
  | .none, _, _ => by decide +kernel
  | .bool true, _, _ => by decide +kernel
  | .bool false, _, _ => by decide +kernel
  | .int i, _, h => int_text_len_1921 (of_decide_eq_true (show decide (i.natAbs.log2 < 1920) = true from h))
  | .str x, h, _ => StrLaws.reprText_len x (strOk_small h)
  | .list xs, h, h' => by
    have h1 := szAll_ok xs (by simpa [PyData.canLay0] using h) (by simpa [PyData.showable] using h')
    have h2 := listText_len_le (PyData.shownAll xs)
    show (listText (PyData.shownAll xs)).length ≤ szAll xs + 3
    omega
  | .tuple xs, h, h' => by
    have h1 := szAll_ok xs (by simpa [PyData.canLay0] using h) (by simpa [PyData.showable] using h')
    have h2 := tupleText_len_le (PyData.shownAll xs)
    show (tupleText (PyData.shownAll xs)).length ≤ szAll xs + 3
    omega
  | .dict _, h, _ => by simp [PyData.canLay0] at h
theorem szAll_ok : ∀ xs : List Da, PyData.canLayAll0 xs = true → PyData.showableAll xs = true → ((PyData.shownAll xs).map (·.length)).sum + 2 * (PyData.shownAll xs).length ≤ szAll xs
  | [], _, _ => by simp [PyData.shownAll, szAll]
  | x :: xs, h, h' => by
    have q : x.canLay0 = true ∧ PyData.canLayAll0 xs = true := by simpa [PyData.canLayAll0] using h
    have q' : x.showable = true ∧ PyData.showableAll xs = true := by simpa [PyData.showableAll] using h'
    have h1 := szD_ok x q.1 q'.1
    have h2 := szAll_ok xs q.2 q'.2
    simp only [PyData.shownAll, szAll, List.map_cons, List.sum_cons, List.length_cons]
    omega
end
/-- may be shown -/
def Sh (d : Da) : Prop := d.canLay0 = true ∧ d.showable = true ∧ d.depth ≤ 60 ∧ szD d ≤ 16000000
theorem Sh.len {d : Da} (h : Sh d) : d.shown.length ≤ sizeLine := Nat.le_trans (szD_ok d h.1 h.2.1) (Nat.le_trans h.2.2.2 (by decide))
def pick {α : Type} (perm : List Nat) (ws : List α) : List α := perm.filterMap fun i => ws[i]?
end Z
namespace Z
open L2 PySem PySem.Spec PyProof.Rows
open Evl (Ex ex_l ex_t ex_rd fresh_back)
def Cps (x : Str) : Prop := ∀ c ∈ x.cps.toList, c < 0x110000
theorem cps_ok {x : Str} : PyData.strOk x = true ↔ Cps x := by
  unfold PyData.strOk Cps
  rw [Array.all_eq_true_iff_forall_mem]
  simp
theorem cps_of (s : String) : Cps (Str.ofString s) := by
  rw [Str.ofString_eq_toList]
  intro c hc
  simp only [List.mem_map] at hc
  obtain ⟨ch, _, rfl⟩ := hc
  have := ch.valid
  show ch.val.toNat < _
  rcases this with h | h
  · exact Nat.lt_trans h (by decide)
  · exact h.2
theorem cps_app {x y : Str} (hx : Cps x) (hy : Cps y) : Cps (x ++ y) := by
  intro c hc
  have : c ∈ (x.cps ++ y.cps).toList := hc
  rw [Array.toList_append, List.mem_append] at this
  exact this.elim (hx c) (hy c)
theorem cps_char {q c : Nat} (hq : q < 0x110000) (hc : c < 0x110000) : ∀ k ∈ Builtin.Str.reprChar q c, k < 0x110000 := by
  have hh : ∀ (w : Nat), ∀ k ∈ List.replicate (w - ((Nat.toDigits 16 c).map Char.toNat).length) 48 ++ (Nat.toDigits 16 c).map Char.toNat, k < 0x110000 := fun w k hk => by
    rw [List.mem_append] at hk
    rcases hk with h | h
    · have := (List.mem_replicate.mp h).2; omega
    · obtain ⟨ch, _, rfl⟩ := List.mem_map.mp h
      have := ch.valid
      show ch.val.toNat < _
      rcases this with h | h
      · exact Nat.lt_trans h (by decide)
      · exact h.2
  intro k hk
  unfold Builtin.Str.reprChar at hk
  dsimp only at hk
  repeat' split at hk
  all_goals first
    | (simp only [List.mem_append, List.mem_cons, List.not_mem_nil, or_false] at hk; omega)
    | (rw [List.mem_append] at hk
       rcases hk with h | h
       · (simp only [List.mem_cons, List.not_mem_nil, or_false] at h; omega)
       · exact hh _ k h)
theorem cps_fold {q : Nat} (hq : q < 0x110000) : ∀ (l : List Nat) (acc : Array Nat), (∀ c ∈ l, c < 0x110000) → (∀ c ∈ acc.toList, c < 0x110000) → ∀ c ∈ (l.foldl (fun out c => out ++ (Builtin.Str.reprChar q c).toArray) acc).toList, c < 0x110000
  | [], _, _, ha => ha
  | x :: l, acc, hl, ha => by
    rw [List.foldl_cons]
    refine cps_fold hq l _ (fun c hc => hl c (List.mem_cons_of_mem _ hc)) fun c hc => ?_
    rw [Array.toList_append, List.mem_append] at hc
    rcases hc with h | h
    · exact ha c h
    · exact cps_char hq (hl x List.mem_cons_self) c (by simpa using h)
theorem cps_repr {x : Str} (h : Cps x) : Cps (reprText x) := by
  have hq : reprQuote x < 0x110000 := by unfold reprQuote; split <;> decide
  intro c hc
  unfold reprText at hc
  rw [Array.toList_push, List.mem_append, ← Array.foldl_toList] at hc
  rcases hc with hc | hc
  · refine cps_fold hq _ _ h (fun d hd => ?_) c hc
    have : d = reprQuote x := by simpa using hd
    omega
  · have : c = reprQuote x := by simpa using hc
    omega
theorem cps_text : ∀ (ts : List Str) (k : Nat) (acc : Str), Cps acc → (∀ t ∈ ts, Cps t) → Cps (textFrom k acc ts)
  | [], _, _, ha, _ => ha
  | t :: ts, k, acc, ha, h => cps_text ts (k + 1) _ (cps_app (cps_app ha (cps_of _)) (h t List.mem_cons_self)) fun u hu => h u (List.mem_cons_of_mem _ hu)
theorem cps_join {sep : Str} (hs : Cps sep) : ∀ ts : List Str, (∀ t ∈ ts, Cps t) → Cps (Str.join sep ts)
  | [], _ => fun c hc => by simp [Str.join, Str.empty] at hc
  | [x], h => h x List.mem_cons_self
  | x :: y :: r, h => cps_app (cps_app (h x List.mem_cons_self) hs) (cps_join hs (y :: r) fun t ht => h t (List.mem_cons_of_mem _ ht))
mutual
theorem cps_shown : ∀ d : Da, d.canLay0 = true → Cps d.shown
  | .none, _ => cps_of _
  | .bool b, _ => by cases b <;> exact cps_of _
  | .int i, _ => cps_of _
  | .str x, h => cps_repr (cps_ok.mp (by simpa [PyData.canLay0] using h))
  | .list xs, h => cps_app (cps_text _ _ _ (cps_of _) (cps_all xs (by simpa [PyData.canLay0] using h))) (cps_of _)
  | .tuple xs, h => cps_app (cps_app (cps_of _) (cps_join (cps_of _) _ (cps_all xs (by simpa [PyData.canLay0] using h)))) (cps_of _)
  | .dict _, h => by simp [PyData.canLay0] at h
theorem cps_all : ∀ xs : List Da, PyData.canLayAll0 xs = true → ∀ t ∈ PyData.shownAll xs, Cps t
  | [], _, t, ht => by simp [PyData.shownAll] at ht
  | x :: xs, h, t, ht => by
    have q : x.canLay0 = true ∧ PyData.canLayAll0 xs = true := by simpa [PyData.canLayAll0] using h
    rcases List.mem_cons.mp (show t ∈ x.shown :: PyData.shownAll xs from ht) with rfl | ht
    · exact cps_shown x q.1
    · exact cps_all xs q.2 t ht
end
theorem shaped_str {x : Str} (h : Cps x) : SeqAt.shaped (.str x) = true := by
  have h1 : PyData.canLay0 (.str x) = true := cps_ok.mpr h
  unfold SeqAt.shaped
  rw [h1]
  rfl
theorem eqv_strs (a b c d : Str) : (PyData.list [.str a, .str b]).eqv (.list [.str c, .str d]) = (decide (a = c) && decide (b = d)) := by
  simp [PyData.eqv, PyData.eqvAll]
  by_cases h1 : a = c <;> by_cases h2 : b = d <;> simp [h1, h2]
theorem showI {n : Int} (h : Bn 1900 n) : n.natAbs.log2 < 1920 := by
  by_cases h0 : n.natAbs = 0
  · rw [h0]; decide
  · exact (Nat.log2_lt h0).mpr (Nat.lt_trans h.lt (Nat.pow_lt_pow_right (by decide) (by decide)))
theorem Sh.num {n d : Int} (hn : Bn 1900 n) (hd : Bn 1900 d) : Sh (Z.num n d) := by
  refine ⟨rfl, ?_, by show 1 ≤ 60; decide, by show 1921 + 2 + (1921 + 2 + 0) + 3 ≤ 16000000; decide⟩
  have := showI hn
  have := showI hd
  simp [PyData.showable, PyData.showableAll, *]
theorem Sh.int {n : Int} (hn : Bn 1900 n) : Sh (.int n) := by
  refine ⟨rfl, ?_, by show 0 ≤ 60; decide, by show 1921 ≤ 16000000; decide⟩
  have := showI hn
  simp [PyData.showable, *]
theorem Sh.none : Sh .none := ⟨rfl, rfl, by decide, by decide⟩
theorem Sh.bool (b : Bool) : Sh (.bool b) := ⟨rfl, rfl, by show 0 ≤ 60; decide, by show 5 ≤ 16000000; decide⟩
theorem pick_0 {α : Type} (a : α) : pick [0] [a] = [a] := rfl
theorem pick_01 {α : Type} (a b : α) : pick [0, 1] [a, b] = [a, b] := rfl
theorem pick_10 {α : Type} (a b : α) : pick [1, 0] [a, b] = [b, a] := rfl
theorem pick_012 {α : Type} (a b c : α) : pick [0, 1, 2] [a, b, c] = [a, b, c] := rfl
theorem pick_021 {α : Type} (a b c : α) : pick [0, 2, 1] [a, b, c] = [a, c, b] := rfl
theorem pick_102 {α : Type} (a b c : α) : pick [1, 0, 2] [a, b, c] = [b, a, c] := rfl
theorem pick_120 {α : Type} (a b c : α) : pick [1, 2, 0] [a, b, c] = [b, c, a] := rfl
theorem pick_201 {α : Type} (a b c : α) : pick [2, 0, 1] [a, b, c] = [c, a, b] := rfl
theorem pick_210 {α : Type} (a b c : α) : pick [2, 1, 0] [a, b, c] = [c, b, a] := rfl
theorem rangeD_mem {lo : Int} {n : Nat} {x : Da} (h : x ∈ rangeD lo n) : ∃ i : Int, x = .int i ∧ lo ≤ i ∧ i < lo + n := by
  unfold rangeD at h
  obtain ⟨i, hi, rfl⟩ := List.mem_map.mp h
  have := List.mem_range.mp hi
  exact ⟨_, rfl, by omega, by omega⟩
theorem low_pos {n d : Int} (hn : 0 < n) (hd : 0 < d) : 0 < (low n d).1 ∧ 0 < (low n d).2 ∧ Int.gcd (low n d).1 (low n d).2 = 1 ∧ (low n d).1 ≤ n ∧ (low n d).2 ≤ d := by
  have g0 := gcd_pos (a := n) hd
  have d1 : (Int.gcd n d : Int) ∣ n := Int.gcd_dvd_left n d
  have d2 : (Int.gcd n d : Int) ∣ d := Int.gcd_dvd_right n d
  refine ⟨Int.ediv_pos_of_pos_of_dvd hn (Int.le_of_lt g0) d1, Int.ediv_pos_of_pos_of_dvd hd (Int.le_of_lt g0) d2, ?_, Int.ediv_le_self _ (Int.le_of_lt hn), Int.ediv_le_self _ (Int.le_of_lt hd)⟩
  show Int.gcd (n / Int.gcd n d) (d / Int.gcd n d) = 1
  exact Int.gcd_ediv_gcd_ediv_gcd (by omega)
end Z
namespace Z
open L2 PySem PySem.Spec PyProof.Rows
end Z
namespace Z
open L2 PySem PySem.Spec PyProof.Rows
open Evl (Ex ex_l ex_t ex_rd fresh_back)
/-- the remainder of a * x lies between l and h -/
def Hit (a m l h x : Int) : Prop := l ≤ a * x % m ∧ a * x % m ≤ h
/-- the least int from 0 on that hits -/
def LM (a m l h : Int) : Option Int → Prop
  | some x => 0 ≤ x ∧ Hit a m l h x ∧ ∀ y, 0 ≤ y → Hit a m l h y → x ≤ y
  | none => ∀ y, 0 ≤ y → ¬Hit a m l h y
/-- rounded up -/
def upI' (n d : Int) : Int := -(-n / d)
theorem up_iff {n d x : Int} (hd : 0 < d) : upI' n d ≤ x ↔ n ≤ d * x := by
  unfold upI'
  have h1 := Int.ediv_mul_le (-n) (show d ≠ 0 by omega)
  have h2 := Int.lt_ediv_add_one_mul_self (-n) hd
  generalize -n / d = q at h1 h2 ⊢
  have e1 : (q + 1) * d = q * d + d := by grind
  rw [e1] at h2
  constructor
  · intro h
    have : (-q) * d ≤ x * d := Int.mul_le_mul_of_nonneg_right h (by omega)
    have e2 : (-q) * d = -(q * d) := by grind
    have e3 : x * d = d * x := by grind
    omega
  · intro h
    apply Int.not_lt.mp
    intro hc
    have : (x + 1) * d ≤ (-q) * d := Int.mul_le_mul_of_nonneg_right (by omega) (by omega)
    have e2 : (-q) * d = -(q * d) := by grind
    have e3 : (x + 1) * d = d * x + d := by grind
    omega
theorem up_lt {n d : Int} (hd : 0 < d) : d * (upI' n d - 1) < n ∧ n ≤ d * upI' n d := by
  refine ⟨?_, (up_iff hd).mp (Int.le_refl _)⟩
  apply Int.not_le.mp
  intro h
  have := (up_iff (x := upI' n d - 1) hd).mpr h
  omega
theorem up_eq {n d x : Int} (hd : 0 < d) (h1 : d * (x - 1) < n) (h2 : n ≤ d * x) : upI' n d = x := by
  have a := (up_iff hd).mpr h2
  have b : ¬upI' n d ≤ x - 1 := fun h => absurd ((up_iff hd).mp h) (by omega)
  omega
theorem mod_of {t q r m : Int} (h : t = m * q + r) (h0 : 0 ≤ r) (h1 : r < m) : t % m = r ∧ t / m = q := by
  have hm : 0 < m := by omega
  have e : t % m = r := by
    rw [h, Int.add_comm, Int.add_mul_emod_self_left, Int.emod_eq_of_lt h0 h1]
  refine ⟨e, ?_⟩
  have := Int.mul_ediv_add_emod t m
  rw [e] at this
  have h3 : m * (t / m) = m * q := by omega
  exact Int.eq_of_mul_eq_mul_left (by omega) h3
theorem hit_of {a m l h x y : Int} (h0 : 0 < l) (hm : h < m) (h1 : l ≤ a * x - m * y) (h2 : a * x - m * y ≤ h) : Hit a m l h x := by
  have := (mod_of (t := a * x) (q := y) (r := a * x - m * y) (m := m) (by omega) (by omega) (by omega)).1
  unfold Hit
  rw [this]
  exact ⟨h1, h2⟩
theorem hit_to {a m l h x : Int} (H : Hit a m l h x) : l ≤ a * x - m * (a * x / m) ∧ a * x - m * (a * x / m) ≤ h := by
  have := Int.mul_ediv_add_emod (a * x) m
  unfold Hit at H
  omega
/-- no multiple lies in it: what is left for the smaller problem -/
theorem lm_step {a m l h : Int} (ha : 0 < a) (h0 : 0 < l) (hl : l ≤ h) (hm : h < m) (hf : h < a * upI' l a) :
    (0 < -h % a ∧ -h % a ≤ -l % a ∧ -l % a < a) ∧ (∀ r, LM (m % a) a (-h % a) (-l % a) r → LM a m l h (r.map fun y => upI' (l + m * y) a)) := by
  obtain ⟨u1, u2⟩ := up_lt (n := l) ha
  generalize hc : upI' l a = c at u1 u2 hf
  have e1 : a * (c - 1) = a * c - a := by grind
  rw [e1] at u1
  -- the interval, from the multiple above it
  have m1 : -l % a = a * c - l := (mod_of (q := -c) (by grind) (by omega) (by omega)).1
  have m2 : -h % a = a * c - h := (mod_of (q := -c) (by grind) (by omega) (by omega)).1
  rw [m1, m2]
  have b1 : 0 < a * c - h := by omega
  have b2 : a * c - h ≤ a * c - l := by omega
  have b3 : a * c - l < a := by omega
  refine ⟨⟨b1, b2, b3⟩, ?_⟩
  have hm' := Int.mul_ediv_add_emod m a
  generalize hq : m / a = q at hm'
  generalize hk : m % a = k at hm'
  have k0 : 0 ≤ k := by rw [← hk]; exact Int.emod_nonneg _ (by omega)
  -- from a hit of the smaller problem
  have up1 : ∀ y, 0 ≤ y → Hit k a (a * c - h) (a * c - l) y → ∃ x, 0 ≤ x ∧ l ≤ a * x - m * y ∧ a * x - m * y ≤ h := fun y y0 hy => by
    obtain ⟨t1, t2⟩ := hit_to hy
    generalize hu : k * y / a = u at t1 t2
    have u0 : 0 ≤ u := by rw [← hu]; exact Int.ediv_nonneg (Int.mul_nonneg k0 y0) (by omega)
    have q0 : 0 ≤ q := by rw [← hq]; exact Int.ediv_nonneg (by omega) (by omega)
    have c0 : 0 ≤ c := by
      apply Int.not_lt.mp
      intro hc
      have : a * c ≤ a * 0 := Int.mul_le_mul_of_nonneg_left (by omega) (by omega)
      omega
    have x0 : 0 ≤ q * y := Int.mul_nonneg q0 y0
    have ex : a * (u + q * y + c) - m * y = a * u + a * c - k * y := by rw [← hm']; grind
    exact ⟨u + q * y + c, by omega, by omega, by omega⟩
  have down : ∀ x y, l ≤ a * x - m * y → a * x - m * y ≤ h → Hit k a (a * c - h) (a * c - l) y := fun x y t1 t2 => by
    have ex : a * x - m * y = a * (x - q * y) - k * y := by rw [← hm']; grind
    have ez : k * y - a * (x - q * y - c) = k * y - a * (x - q * y) + a * c := by grind
    exact hit_of (y := x - q * y - c) b1 (by omega) (by omega) (by omega)
  intro r hr
  cases r with
  | none =>
    intro x x0 hx
    obtain ⟨t1, t2⟩ := hit_to hx
    by_cases hy : 0 ≤ a * x / m
    · exact hr _ hy (down _ _ t1 t2)
    · exact absurd (Int.ediv_nonneg (Int.mul_nonneg (Int.le_of_lt ha) x0) (by omega)) hy
  | some y =>
    obtain ⟨y0, hy, hmin⟩ := hr
    obtain ⟨x, x0, t1, t2⟩ := up1 y y0 hy
    have ee : upI' (l + m * y) a = x := by
      have e3 : a * (x - 1) = a * x - a := by grind
      exact up_eq ha (by omega) (by omega)
    show LM a m l h (some (upI' (l + m * y) a))
    rw [ee]
    refine ⟨x0, hit_of h0 hm t1 t2, fun x' x0' hx' => ?_⟩
    obtain ⟨s1, s2⟩ := hit_to hx'
    have y0' : 0 ≤ a * x' / m := Int.ediv_nonneg (Int.mul_nonneg (Int.le_of_lt ha) x0') (by omega)
    have hle := hmin _ y0' (down _ _ s1 s2)
    rw [← ee]
    rw [up_iff ha]
    have : m * y ≤ m * (a * x' / m) := Int.mul_le_mul_of_nonneg_left hle (by omega)
    omega
/-- the steps put aside -/
inductive Chn (A M L H : Int) : List (Int × Int × Int) → Int → Int → Int → Int → Prop
  | nil : Chn A M L H [] A M L H
  | snoc {os : List (Int × Int × Int)} {a m l h : Int} (c : Chn A M L H os a m l h) (ha : 0 < a) (hf : h < a * upI' l a) : Chn A M L H (os ++ [(a, m, l)]) (m % a) a (-h % a) (-l % a)
theorem Chn.ok {A M L H : Int} (hA : 0 ≤ A) (hAM : A < M) (hL : 0 < L) (hLH : L ≤ H) (hM : H < M) {os : List (Int × Int × Int)} {a m l h : Int} (c : Chn A M L H os a m l h) : 0 ≤ a ∧ a < m ∧ 0 < l ∧ l ≤ h ∧ h < m ∧ m ≤ M ∧ a * m * 2 ^ os.length ≤ A * M := by
  induction c with
  | nil => exact ⟨hA, hAM, hL, hLH, hM, Int.le_refl _, by simp⟩
  | snoc c ha hf ih =>
    rename_i os a m l h
    obtain ⟨i1, i2, i3, i4, i5, i6, i7⟩ := ih
    obtain ⟨⟨s1, s2, s3⟩, _⟩ := lm_step (m := m) ha i3 i4 i5 hf
    have r0 := Int.emod_nonneg m (show a ≠ 0 by omega)
    have r1 := Int.emod_lt_of_pos m ha
    refine ⟨r0, r1, s1, s2, s3, by omega, ?_⟩
    refine Int.le_trans ?_ i7
    rw [List.length_append, List.length_cons, List.length_nil, Int.pow_succ]
    have q1 := Int.mul_ediv_add_emod m a
    have q2 : 1 ≤ m / a := by
      have := (Int.le_ediv_iff_mul_le ha (a := 1) (b := m)).mpr (by omega)
      exact this
    have q3 : a * 1 ≤ a * (m / a) := Int.mul_le_mul_of_nonneg_left q2 (by omega)
    have q4 : 2 * (m % a) ≤ m := by omega
    have p := pow2_pos os.length
    have e : m % a * a * (2 ^ os.length * 2) = 2 * (m % a) * (a * 2 ^ os.length) := by grind
    have e2 : a * m * 2 ^ os.length = m * (a * 2 ^ os.length) := by grind
    rw [e, e2]
    exact Int.mul_le_mul_of_nonneg_right q4 (Int.mul_nonneg (by omega) (Int.le_of_lt p))
end Z
namespace Z
open L2 PySem PySem.Spec PyProof.Rows
def optD : Option Int → Da
  | some x => .int x
  | none => .none
end Z
namespace Z
open L2 PySem PySem.Spec PyProof.Rows
end Z
namespace Z
open L2 PySem PySem.Spec PyProof.Rows
open Evl (Ex ex_l ex_t ex_rd fresh_back)
def intsD : List Da → Option (List Int)
  | [] => some []
  | .int i :: ds => (intsD ds).map (i :: ·)
  | _ => none
theorem ints_v {K : Fg} {F : Hp} : ∀ {vs : List V} {ds : List Da} {ns : List Int}, Rps K F vs ds → intsD ds = some ns → vs = ns.map V.int
  | _, _, _, .nil, h => by cases h; rfl
  | _, d :: ds, ns, .cons r t, h => by
    cases d with
    | int i =>
      unfold intsD at h
      cases q : intsD ds with
      | none => rw [q] at h; cases h
      | some cs =>
        rw [q] at h
        cases h
        cases r
        rw [ints_v t q]
        rfl
    | _ => cases h
theorem intsD_map (ns : List Int) : intsD (ns.map PyData.int) = some ns := by
  induction ns with
  | nil => rfl
  | cons n ns ih => simp [intsD, ih]
def cMinL : CF := fun rs post => match rs with
  | [.val (.list ds)] => (match intsD ds with | some ns => 0 < ns.length ∧ ∀ m, m ∈ ns → (∀ y, y ∈ ns → m ≤ y) → post (.int m) | none => False)
  | _ => False
section
variable {K : Fg}
theorem ok_minL : CallOk K (rMin K) cMinL := fun F H a fu vs rs post Q e t hf k => by
  unfold cMinL at hf
  split at hf
  · rename_i ds
    split at hf
    · rename_i ns q
      obtain ⟨v, rfl, r⟩ := t.v1
      cases r with
      | lst sq m =>
        rw [ints_v m q] at sq
        exact ⟨_, ns, rfl, .inl (.inl (e _ _ sq)), hf.1, fun m h1 h2 => k _ _ H F (hf.2 m h1 h2) (Gr.refl e) (.int _)⟩
    · exact hf.elim
  · exact hf.elim
end
section
variable {X : Cx} {p pos : Pos} {e : Expr} {tr : DA}
theorem e_minL (hc : X.calm = true) (hg : Gl X "min") (hm : X.mg "min" = none) (ha : PA X [e] (upA X.K tr)) (he : starEach [e] X.env = (false, eval e X.env) :: starEach [] X.env := by rfl) : PE X (.Call (.Name "min" p) [e] [] pos) (up X.K (dCB cMinL tr)) := e_callB (cr_min hc) ok_minL hg hm (by decide +kernel) ha (by decide) (by decide) he rfl
end
end Z
namespace Z
open L2 PySem PySem.Spec PyProof.Rows
open Evl (Ex ex_l ex_t ex_rd fresh_back)
end Z
namespace Z
open L2 PySem PySem.Spec PyProof.Rows
open Evl (Ex ex_l ex_t ex_rd fresh_back)
abbrev DO := Gs → (Option Int → Gs → Prop) → Prop
def oNo : DO := fun g Q => Q none g
def oSo (te : DE) : DO := fun g Q => te g fun r g1 => match r with
  | .val (.int i) => Q (some i) g1
  | _ => False
def upO (K : Fg) (t : DO) : TO := fun σ H Q => ∃ c g tv tr F a post, Sta K c g σ H tv tr F a ∧ t g post ∧
  ∀ o g' H' F' a', post o g' → Sta K c g' σ H' tv tr F' a' → Q o H'
def cutD (ds : List Da) (lo hi : Option Int) : List Da := (ds.drop (HT.sIx ds.length 0 lo)).take (HT.sIx ds.length ds.length hi - HT.sIx ds.length 0 lo)
def dSl (ta : DE) (tl th : DO) : DE := fun g Q => ta g fun x g1 => tl g1 fun lo g2 => th g2 fun hi g3 => match x with
  | .val (.list ds) => Q (.val (.list (cutD ds lo hi))) g3
  | .val (.tuple ds) => ¬(HT.sIx ds.length 0 lo = 0 ∧ HT.sIx ds.length ds.length hi = ds.length) ∧ Q (.val (.tuple (cutD ds lo hi))) g3
  | _ => False
theorem Rps.drop {K : Fg} {F : Hp} : ∀ {vs : List V} {ds : List Da} (n : Nat), Rps K F vs ds → Rps K F (vs.drop n) (ds.drop n)
  | _, _, 0, h => h
  | _, _, n + 1, .nil => .nil
  | _, _, n + 1, .cons _ t => Rps.drop n t
theorem Rps.take {K : Fg} {F : Hp} : ∀ {vs : List V} {ds : List Da} (n : Nat), Rps K F vs ds → Rps K F (vs.take n) (ds.take n)
  | _, _, 0, _ => .nil
  | _, _, n + 1, .nil => .nil
  | _, _, n + 1, .cons r t => .cons r (Rps.take n t)
theorem Rps.cut {K : Fg} {F : Hp} {vs : List V} {ds : List Da} (h : Rps K F vs ds) (lo hi : Option Int) : Rps K F (cutV vs lo hi) (cutD ds lo hi) := by
  unfold cutV cutD
  rw [h.len]
  exact (h.drop _).take _
section
variable {X : Cx} {e : Expr} {te : DE}
theorem po_to {o : Option Expr} {t t' : TO} (h : PO X o t) (i : ∀ σ H Q, t' σ H Q → t σ H Q) : PO X o t' := ⟨fun pins s σ H Q I q => h.run pins s σ H Q I (i σ H Q q)⟩
theorem o_none : PO X none (upO X.K oNo) := po_to po_none fun σ H Q q => by
  obtain ⟨c, g, tv, tr, F, ad, post, s, t, k⟩ := q
  exact k none g H F ad t s
theorem o_some (h : PE X e (up X.K te)) : PO X (some e) (upO X.K (oSo te)) := po_to (po_some h) fun σ H Q q => by
  obtain ⟨c, g, tv, tr, F, ad, post, s, t, k⟩ := q
  refine ⟨c, g, tv, tr, F, ad, _, s, t, fun r g1 v H1 F1 a1 t1 s1 => ?_⟩
  cases r with
  | val d =>
    cases d with
    | int i =>
      have hr : Rp X.K F1 v (.int i) := s1.top
      cases hr
      exact ⟨i, rfl, k _ g1 H1 F1 a1 t1 s1.pop1⟩
    | _ => exact t1.elim
  | _ => exact t1.elim
variable {lo hi : Option Expr} {tl th : DO} {ta : DE} {a : Expr} {p2 pos : Pos}
theorem e_sl (ha : PE X a (up X.K ta)) (hl : PO X lo (upO X.K tl)) (hu : PO X hi (upO X.K th)) : PE X (.Subscript a (.Slice lo hi none p2) pos) (up X.K (dSl ta tl th)) := pe_to (pe_slice (sl_list.or sl_tup) ha hl hu) fun σ H Q q => by
  obtain ⟨c, g, tv, tr, F, ad, post, s, t, k⟩ := q
  refine ⟨c, g, tv, tr, F, ad, _, s, t, fun x g1 v1 H1 F1 a1 t1 s1 => ?_⟩
  refine ⟨c, g1, _, _, F1, a1, _, s1, t1, fun l g2 H2 F2 a2 t2 s2 => ?_⟩
  refine ⟨c, g2, _, _, F2, a2, _, s2, t2, fun u g3 H3 F3 a3 t3 s3 => ?_⟩
  cases x with
  | val d =>
    cases d with
    | list ds =>
      have hr : Rp X.K F3 v1 (.list ds) := s3.top
      cases hr with
      | lst sq m =>
        rename_i pp xs
        refine .inl ⟨_, _, rfl, .inl (.inl (s3.eh _ _ sq)), fun q hq => ?_⟩
        have gr := Gr.new (o := .lst (cutV xs l u)) s3.eh hq
        exact k _ g3 _ _ _ a3 t3 ((s3.pop1.grow gr).push (r := .val (.list (cutD ds l u))) (.lst upd_same ((m.cut l u).up gr.f)))
    | tuple ds =>
      have hr : Rp X.K F3 v1 (.tuple ds) := s3.top
      cases hr with
      | tup sq m =>
        rename_i pp xs
        refine .inr ⟨_, _, rfl, ex_t s3.eh sq, by rw [m.len]; exact t3.1, fun q hq => ?_⟩
        have gr := Gr.new (o := .tup (cutV xs l u)) s3.eh hq
        exact k _ g3 _ _ _ a3 t3.2 ((s3.pop1.grow gr).push (r := .val (.tuple (cutD ds l u))) (.tup (.inl (.inl upd_same)) ((m.cut l u).up gr.f)))
    | _ => exact t3.elim
  | _ => exact t3.elim
end
end Z
namespace Z
open L2 PySem PySem.Spec PyProof.Rows
open Evl (Ex ex_l ex_t ex_rd fresh_back)
def dBy (tab : Ru → Da) (te : DE) : DE := fun g Q => te g fun r g1 => match r with
  | .val (.str x) => ∃ ru : Ru, x = ru.s ∧ Q (.val (tab ru)) g1
  | _ => False
section
variable {X : Cx} {b : Expr} {te : DE} {p pos : Pos} {x : Str}
theorem e_by {ra : Addr} {tab : Ru → Da} (hg : Gl X x) (hm : X.mg x = some (.ref ra)) (hk : ∀ ru : Ru, ∃ v, KDct X.K X.w ra ru.s v ∧ ∀ F, Rp X.K F v (tab ru)) (hb : PE X b (up X.K te)) (hd : (x == ("__debug__" : Str)) = false := by decide) (hs : PlainIx b := by exact fun _ _ => rfl) :
    PE X (.Subscript (.Name x p) b pos) (up X.K (dBy tab te)) := pe_to (pe_ix ix_kdict (pe_glob hg hm (show RelV (.ref ra) (.ref ra) from rfl) hd) hb hs) fun σ H Q q => by
  obtain ⟨c, g, tv, tr, F, ad, post, s, t, k⟩ := q
  refine ⟨c, g, tv, tr, F, ad, _, s, t, fun r g1 v1 H1 F1 a1 t1 s1 => ?_⟩
  cases r with
  | val d =>
    cases d with
    | str z =>
      have hr : Rp X.K F1 v1 (.str z) := s1.top
      cases hr
      obtain ⟨ru, rfl, t1⟩ := t1
      obtain ⟨v, h1, h2⟩ := hk ru
      exact ⟨ra, ru.s, v, rfl, rfl, h1, k _ g1 v H1 F1 a1 t1 (s1.pop1.push (r := .val (tab ru)) (h2 F1))⟩
    | _ => exact t1.elim
  | _ => exact t1.elim
end
end Z
namespace Z
open L2 PySem PySem.Spec PyProof.Rows
end Z
namespace Z
open L2 PySem PySem.Spec PyProof.Rows
open Evl (Ex ex_l ex_t ex_rd fresh_back)
def rSortedD (K : Fg) : List V → Hp → VK → Prop := fun vs H Q => ∃ (a : Addr) (bs : List (V × Da)), vs = [V.ref a] ∧ SqL K H a (bs.map Prod.fst) ∧ (∀ b ∈ bs, Dp K H b.1 b.2) ∧ PySem.W.AllAlike (bs.map Prod.snd) ∧ PySem.W.Sortable (bs.map Prod.snd) ∧ (∀ b ∈ bs, b.2.depth ≤ 50) ∧
  ∀ (bs' : List (V × Da)) (p : Addr), bs'.Perm bs → (bs'.map Prod.snd).Pairwise (fun a b => PySem.W.dataLe false id a b = true) → H p = none → Q (.ref p) (upd H p (.lst (bs'.map Prod.fst)))
theorem each_vals : ∀ {bs : List (V × Da)} {its : List Value}, Vals (bs.map Prod.fst) its → PySem.W.EachIs (fun v b => RelV b.1 v) its bs
  | [], _, h => by cases h; exact .nil
  | b :: bs, _, h => by
    cases h with
    | cons h t => exact .cons h (each_vals t)
theorem vals_each : ∀ {bs : List (V × Da)} {its : List Value}, PySem.W.EachIs (fun v b => RelV b.1 v) its bs → Vals (bs.map Prod.fst) its
  | _, _, .nil => .nil
  | _, _, .cons h t => .cons h (vals_each t)
theorem each_and {α β : Type} {R S : α → β → Prop} : ∀ {as : List α} {bs : List β}, PySem.W.EachIs R as bs → (∀ a, ∀ b ∈ bs, R a b → S a b) → PySem.W.EachIs S as bs
  | _, _, .nil, _ => .nil
  | _, _, .cons h t, k => .cons (k _ _ (List.mem_cons_self ..) h) (each_and t fun a b hb => k a b (List.mem_cons_of_mem _ hb))
section
variable {X : Cx}
theorem cr_sortedD (hu : X.A.units + 64 < cLine) : CallR X (.builtin "sorted") (rSortedD X.K) := by
  intro pins s σ H vs us Q I r h
  obtain ⟨a, bs, rfl, hs, hd, ha, hk, hdp, q⟩ := h
  obtain ⟨its, rv, hl, hz⟩ := I.list hs
  rw [Vals.ref1 r]
  have e := each_vals rv
  have er : PySem.W.EachIs (fun v (b : V × Da) => ∃ as, Reads s.heap v b.2 as) its bs := each_and e fun v b hb hr => Dp.reads I b.2 b.1 v (hd b hb) hr
  rw [List.length_map] at hz
  refine PySem.W.sorted_data (enc := Prod.snd) hl.isList e er ha hk hz (fun b hb => by have := hdp b hb; omega) fun out h1 h2 => ?_
  obtain ⟨ep, he'⟩ := PyProof.Rows.sortedAll_at s.heap its out.toArray
  have pm : (bs.mergeSort (PySem.W.dataLe false Prod.snd)).Perm bs := List.mergeSort_perm ..
  have pw : ((bs.mergeSort (PySem.W.dataLe false Prod.snd)).map Prod.snd).Pairwise (fun a b => PySem.W.dataLe false id a b = true) := by
    rw [List.pairwise_map]
    exact PySem.W.sort_pairwise (PySem.W.sortLe_total _ _ _) bs
  have hlen : ((bs.mergeSort (PySem.W.dataLe false Prod.snd)).map Prod.fst).length ≤ sizeLine := by rw [List.length_map, pm.length_eq]; exact hz
  exact ⟨.ref _, upd H (s.heap.objs.size + 1) (.lst ((bs.mergeSort (PySem.W.dataLe false Prod.snd)).map Prod.fst)), I.laid (t' := s.toks) (fun _ _ => PyProof.Rows.sortedAll_old) (Nat.le_succ _) ⟨hlen, out, ep, vals_each h2, he'⟩, rfl, q _ _ pm pw (I.hok.fresh (Nat.le_succ _))⟩
end
def cSortedD : CF := fun rs post => match rs with
  | [.val (.list ds)] => PySem.W.AllAlike ds ∧ PySem.W.Sortable ds ∧ (∀ d ∈ ds, d.canLay0 = true ∧ d.depth ≤ 50) ∧ ∀ ds' : List Da, ds'.Perm ds → ds'.Pairwise (fun a b => PySem.W.dataLe false id a b = true) → post (.list ds')
  | _ => False
theorem rps_zip {K : Fg} {F : Hp} : ∀ {xs : List V} {ds : List Da}, Rps K F xs ds → ∃ bs : List (V × Da), bs.map Prod.fst = xs ∧ bs.map Prod.snd = ds ∧ ∀ b ∈ bs, Rp K F b.1 b.2
  | _, _, .nil => ⟨[], rfl, rfl, fun b hb => nomatch hb⟩
  | _, _, .cons h t => by
    obtain ⟨bs, rfl, rfl, h3⟩ := rps_zip t
    refine ⟨(_, _) :: bs, rfl, rfl, fun b hb => ?_⟩
    rcases List.mem_cons.mp hb with rfl | hb
    · exact h
    · exact h3 b hb
theorem zip_rps {K : Fg} {F : Hp} : ∀ {bs : List (V × Da)}, (∀ b ∈ bs, Rp K F b.1 b.2) → Rps K F (bs.map Prod.fst) (bs.map Prod.snd)
  | [], _ => .nil
  | b :: bs, h => .cons (h b (List.mem_cons_self ..)) (zip_rps fun c hc => h c (List.mem_cons_of_mem _ hc))
theorem ok_sortedD {K : Fg} : CallOk K (rSortedD K) cSortedD := fun F H a fu vs rs post Q e t hf k => by
  unfold cSortedD at hf
  split at hf
  · rename_i ds
    obtain ⟨v, rfl, r⟩ := t.v1
    obtain ⟨h1, h2, h3, h4⟩ := hf
    cases r with
    | lst sq m =>
      obtain ⟨bs, rfl, rfl, hb⟩ := rps_zip m
      refine ⟨_, bs, rfl, .inl (.inl (e _ _ sq)), fun b hm => (hb b hm).dp e _ _ (h3 _ (List.mem_map_of_mem hm)).1, h1, h2, fun b hm => (h3 _ (List.mem_map_of_mem hm)).2, fun bs' p pm pw hp => ?_⟩
      have gr := Gr.new (o := .lst (bs'.map Prod.fst)) e hp
      exact k _ _ _ _ (h4 _ (pm.map _) pw) gr (.lst upd_same ((zip_rps fun b hm => hb b (pm.mem_iff.mp hm)).up gr.f))
  · exact hf.elim
/-- pairs in order: their first ints are -/
theorem le_fst {i j : Int} {x y : Da} (h : PySem.W.dataLe false id (.tuple [.int i, x]) (.tuple [.int j, y]) = true) : i ≤ j := by
  rcases Int.lt_or_le j i with q | q
  · exfalso
    have h' : (!PyProof.Rows.lexLt PyProof.Rows.itemOrd (PySem.W.keyToks (.tuple [.int j, y])) (PySem.W.keyToks (.tuple [.int i, x]))) = true := h
    rw [Bool.not_eq_true'] at h'
    have e : PyProof.Rows.lexLt PyProof.Rows.itemOrd (PySem.W.keyToks (.tuple [.int j, y])) (PySem.W.keyToks (.tuple [.int i, x])) = true := by
      refine PyProof.Rows.lex_true.mpr (.inr ⟨rfl, PyProof.Rows.lex_true.mpr (.inl (decide_eq_true q))⟩)
    rw [e] at h'
    cases h'
  · exact q
section
variable {X : Cx} {p pos : Pos} {e : Expr} {tr : DA} {k : Nat}
theorem e_sortedD (hr : Room k X.A) (hg : Gl X "sorted") (hm : X.mg "sorted" = none) (ha : PA X [e] (upA X.K tr)) (he : starEach [e] X.env = (false, eval e X.env) :: starEach [] X.env := by rfl) : PE X (.Call (.Name "sorted" p) [e] [] pos) (up X.K (dCB cSortedD tr)) := e_callB (cr_sortedD hr.units) ok_sortedD hg hm (by decide +kernel) ha (by decide) (by decide) he rfl
end
end Z
namespace Z
open L2 PySem PySem.Spec PyProof.Rows
open Evl (Ex ex_l ex_t ex_rd fresh_back)
theorem low_mul {x y c : Int} (hc : 0 < c) : low (x * c) (y * c) = low x y := by
  unfold low
  rw [Int.gcd_mul_right, Int.natCast_mul]
  have e : ((c.natAbs : Nat) : Int) = c := by omega
  rw [e, Int.mul_ediv_mul_of_pos_left _ _ hc, Int.mul_ediv_mul_of_pos_left _ _ hc]
theorem low_cross {x y x' y' : Int} (hy : 0 < y) (hy' : 0 < y') (h : x * y' = x' * y) : low x y = low x' y' := by
  rw [← low_mul (x := x) (y := y) hy', ← low_mul (x := x') (y := y') hy, h, Int.mul_comm y y']
theorem low_self {n d : Int} (h : Int.gcd n d = 1) : low n d = (n, d) := by
  unfold low
  rw [h]
  simp
theorem low_val {x y : Int} (hy : 0 < y) : (low x y).1 * y = x * (low x y).2 := by
  unfold low
  obtain ⟨u, hu⟩ : (Int.gcd x y : Int) ∣ x := Int.gcd_dvd_left x y
  obtain ⟨v, hv⟩ : (Int.gcd x y : Int) ∣ y := Int.gcd_dvd_right x y
  have g0 := gcd_pos (a := x) hy
  generalize (Int.gcd x y : Int) = g at *
  subst hu hv
  rw [Int.mul_ediv_cancel_left _ (by omega), Int.mul_ediv_cancel_left _ (by omega)]
  grind
theorem pow_le2 {a b : Nat} (h : a ≤ b) : (2 : Int) ^ a ≤ 2 ^ b := by
  obtain ⟨c, rfl⟩ : ∃ c, b = a + c := ⟨b - a, by omega⟩
  rw [Int.pow_add]
  have h1 := pow2_pos a
  have h2 := pow2_pos c
  have := Int.mul_le_mul_of_nonneg_left (show (1 : Int) ≤ 2 ^ c by omega) (Int.le_of_lt h1)
  omega
theorem pow_pos {k e : Int} (hk : 0 < k) : 0 < (powI k e).1 ∧ 0 < (powI k e).2 ∧ Int.gcd (powI k e).1 (powI k e).2 = 1 := by
  unfold powI
  obtain ⟨a, b⟩ := scI_pos (n := k) (d := 1) (f := e) hk (by decide)
  obtain ⟨h1, h2, h3, _⟩ := low_pos a b
  exact ⟨h1, h2, h3⟩
/-- equal in value, both in lowest terms -/
theorem low_uniq {n d n' d' : Int} (hd : 0 < d) (hd' : 0 < d') (hg : Int.gcd n d = 1) (hg' : Int.gcd n' d' = 1) (h : n * d' = n' * d) : (n, d) = (n', d') := by
  rw [← low_self hg, ← low_self hg', low_cross hd hd' h]
/-- a threshold: a fraction, and to which side it goes there -/
structure Th where
  n : Int
  d : Int
  up : Bool
structure Th.Ok (t : Th) : Prop where
  n0 : 0 ≤ t.n
  nd : t.n ≤ t.d
  d0 : 0 < t.d
  z : t.n = 0 → t.up = false
  o : t.n = t.d → t.up = true
def Abv (x y : Int) (t : Th) : Prop := t.n * y < x * t.d ∨ (t.n * y = x * t.d ∧ t.up = true)
instance (x y : Int) (t : Th) : Decidable (Abv x y t) := by unfold Abv; infer_instance
theorem abv_zero {y : Int} {t : Th} (h : t.Ok) (hy : 0 < y) : ¬ Abv 0 y t := by
  unfold Abv
  rw [Int.zero_mul]
  rintro (q | ⟨q1, q2⟩)
  · have := Int.mul_nonneg h.n0 (Int.le_of_lt hy)
    omega
  · have : t.n = 0 := by
      rcases Int.mul_eq_zero.mp q1 with z | z
      · exact z
      · omega
    rw [h.z this] at q2
    cases q2
theorem abv_one {y : Int} {t : Th} (h : t.Ok) (hy : 0 < y) : Abv y y t := by
  unfold Abv
  by_cases q : t.n = t.d
  · exact .inr ⟨by rw [q, Int.mul_comm], h.o q⟩
  · refine .inl ?_
    rw [Int.mul_comm y]
    exact Int.mul_lt_mul_of_pos_right (by have := h.nd; omega) hy
def nev : Th := ⟨1, 1, true⟩
def alw : Th := ⟨0, 1, false⟩
def tieD : Th := ⟨1, 2, false⟩
def tieU : Th := ⟨1, 2, true⟩
def byR : Ru → Bool → Th
  | .dn, _ => nev
  | .hd, _ => tieD
  | .he, false => tieD
  | .he, true => tieU
  | .hu, _ => tieU
  | .od, false => alw
  | .od, true => nev
  | .up, _ => alw
theorem byR_ok (r : Ru) (b : Bool) : (byR r b).Ok := by
  cases r <;> cases b <;> exact ⟨by decide, by decide, by decide, by decide, by decide⟩
theorem lowZ' {x y : Int} (hy : 0 < y) : (low x y).1 = 0 ↔ x = 0 := by
  have h := low_val (x := x) hy
  constructor
  · intro z
    rw [z, Int.zero_mul] at h
    rcases Int.mul_eq_zero.mp h.symm with q | q
    · exact q
    · exfalso
      have g0 := gcd_pos (a := x) hy
      have : (low x y).2 = y / (Int.gcd x y : Int) := rfl
      obtain ⟨v, hv⟩ : (Int.gcd x y : Int) ∣ y := Int.gcd_dvd_right x y
      rw [this] at q
      generalize (Int.gcd x y : Int) = g at *
      rw [hv, Int.mul_ediv_cancel_left _ (by omega)] at q
      subst q
      omega
  · rintro rfl
    show 0 / _ = _
    exact Int.zero_ediv _
/-- the last index that stays down -/
def lastI (r : Ru) (far : Nat) (b : Bool) : Int :=
  if (byR r b).up = false then (byR r b).n * 2 ^ far / (byR r b).d else (byR r b).n * 2 ^ far / (byR r b).d - 1
def combI (T : Bool → Th) (r : Ru) (far : Nat) (b : Bool) : Th :=
  ⟨(low (lastI r far b * (T (decide (lastI r far b % 2 = 1))).d + (T (decide (lastI r far b % 2 = 1))).n) ((T (decide (lastI r far b % 2 = 1))).d * 2 ^ far)).1,
   (low (lastI r far b * (T (decide (lastI r far b % 2 = 1))).d + (T (decide (lastI r far b % 2 = 1))).n) ((T (decide (lastI r far b % 2 = 1))).d * 2 ^ far)).2,
   (T (decide (lastI r far b % 2 = 1))).up⟩
theorem last_rng {r : Ru} {far : Nat} {b : Bool} (hf : 1 ≤ far) : 0 ≤ lastI r far b ∧ lastI r far b < 2 ^ far := by
  obtain ⟨f, rfl⟩ : ∃ f, far = f + 1 := ⟨far - 1, by omega⟩
  have e : (2 : Int) ^ (f + 1) = 2 * 2 ^ f := by rw [Int.pow_succ, Int.mul_comm]
  have p := pow2_pos f
  unfold lastI
  rw [e]
  generalize (2 : Int) ^ f = F at *
  cases r <;> cases b <;> simp only [byR, nev, alw, tieD, tieU] <;> simp <;> omega
theorem th_ok_low {n d : Int} {up : Bool} (hd : 0 < d) (h0 : 0 ≤ n) (h1 : n ≤ d) (z : n = 0 → up = false) (o : n = d → up = true) : Th.Ok ⟨(low n d).1, (low n d).2, up⟩ := by
  have h := low_val (x := n) hd
  obtain ⟨v, hv⟩ : (Int.gcd n d : Int) ∣ d := Int.gcd_dvd_right n d
  have g0 := gcd_pos (a := n) hd
  have l2 : 0 < (low n d).2 := by
    show 0 < d / (Int.gcd n d : Int)
    generalize (Int.gcd n d : Int) = g at *
    rw [hv, Int.mul_ediv_cancel_left _ (by omega)]
    rw [hv] at hd
    exact Int.pos_of_mul_pos_right hd g0
  have l1 : 0 ≤ (low n d).1 := Int.ediv_nonneg h0 (Int.le_of_lt g0)
  refine ⟨l1, ?_, l2, ?_, ?_⟩
  · show (low n d).1 ≤ (low n d).2
    refine Int.le_of_mul_le_mul_right (a := d) ?_ hd
    rw [h, Int.mul_comm (low n d).2]
    exact Int.mul_le_mul_of_nonneg_right h1 (Int.le_of_lt l2)
  · intro q
    replace q : (low n d).1 = 0 := q
    exact z ((lowZ' hd).mp q)
  · intro q
    replace q : (low n d).1 = (low n d).2 := q
    refine o ?_
    rw [q, Int.mul_comm] at h
    exact (Int.eq_of_mul_eq_mul_right (by omega) h).symm
theorem comb_ok {T : Bool → Th} (hT : ∀ b, (T b).Ok) {r : Ru} {far : Nat} (hf : 1 ≤ far) (bo : Bool) : (combI T r far bo).Ok := by
  have F0 := pow2_pos far
  obtain ⟨i0, i1⟩ := last_rng (r := r) (b := bo) hf
  unfold combI
  generalize hi : lastI r far bo = i at *
  have ht := hT (decide (i % 2 = 1))
  generalize hTi : T (decide (i % 2 = 1)) = t at ht
  have hd := ht.d0
  have hn := ht.n0
  have x := Int.mul_nonneg i0 (Int.le_of_lt hd)
  have y : i * t.d + t.d ≤ t.d * 2 ^ far := by
    have := Int.mul_le_mul_of_nonneg_right (show i + 1 ≤ 2 ^ far by omega) (Int.le_of_lt hd)
    rw [Int.add_mul, Int.mul_comm (2 ^ far)] at this
    omega
  have hnd := ht.nd
  refine th_ok_low (Int.mul_pos hd F0) (by omega) (by omega) (fun z => ht.z (by omega)) (fun z => ht.o (by omega))
structure Nu (n d : Int) : Prop where
  n0 : 0 < n
  d0 : 0 < d
  g : Int.gcd n d = 1
def trimI : Option Int → List (Int × Ru) → List (Int × Ru)
  | _, [] => []
  | none, s :: c => s :: trimI (some s.1) c
  | some l, s :: c => if s.1 < l then s :: trimI (some s.1) c else trimI (some l) c
/-- a chain's widths -/
def Wds (c : List (Int × Ru)) : Prop := ∀ s ∈ c, 1 ≤ s.1 ∧ s.1 ≤ 100
theorem Wds.hd {s : Int × Ru} {c : List (Int × Ru)} (h : Wds (s :: c)) : 1 ≤ s.1 ∧ s.1 ≤ 100 := h s (List.mem_cons_self ..)
theorem Wds.tl {s : Int × Ru} {c : List (Int × Ru)} (h : Wds (s :: c)) : Wds c := fun t ht => h t (List.mem_cons_of_mem _ ht)
def Fall (w : Int) : List (Int × Ru) → Prop
  | [] => True
  | s :: c => 1 ≤ s.1 ∧ s.1 < w ∧ Fall s.1 c
theorem trim_fall : ∀ {c : List (Int × Ru)} {l : Int}, Wds c → Fall l (trimI (some l) c)
  | [], _, _ => trivial
  | s :: c, l, hw => by
    unfold trimI
    by_cases q : s.1 < l
    · rw [if_pos q]
      exact ⟨hw.hd.1, q, trim_fall hw.tl⟩
    · rw [if_neg q]
      exact trim_fall hw.tl
def thF (w : Int) (T : Bool → Th) : List (Int × Ru) → Int × (Bool → Th)
  | [] => (w, T)
  | s :: c => thF s.1 (combI T s.2 (w - s.1).toNat) c
/-- the whole chain by thresholds -/
def chT : List (Int × Ru) → Int × (Bool → Th)
  | [] => (1, byR .dn)
  | s :: c => thF s.1 (byR s.2) (trimI (some s.1) c)
/-- its width: the least -/
theorem thF_min : ∀ {c : List (Int × Ru)} {w : Int} {T : Bool → Th}, (thF w T (trimI (some w) c)).1 ≤ w ∧ (∀ s ∈ c, (thF w T (trimI (some w) c)).1 ≤ s.1) ∧ ((thF w T (trimI (some w) c)).1 = w ∨ ∃ s ∈ c, (thF w T (trimI (some w) c)).1 = s.1)
  | [], w, T => by
    have e : (thF w T (trimI (some w) [])).1 = w := rfl
    refine ⟨by omega, fun s hs => absurd hs (by simp), .inl e⟩
  | s :: c, w, T => by
    unfold trimI
    by_cases q : s.1 < w
    · rw [if_pos q]
      show (thF s.1 _ _).1 ≤ w ∧ (∀ s' ∈ s :: c, (thF s.1 _ _).1 ≤ s'.1) ∧ ((thF s.1 _ _).1 = w ∨ ∃ s' ∈ s :: c, (thF s.1 _ _).1 = s'.1)
      obtain ⟨h1, h2, h3⟩ := thF_min (c := c) (w := s.1) (T := combI T s.2 (w - s.1).toNat)
      refine ⟨by omega, fun s' hs' => ?_, .inr ?_⟩
      · rcases List.mem_cons.mp hs' with rfl | hs'
        · exact h1
        · exact h2 _ hs'
      · rcases h3 with h3 | ⟨s', hs', h3⟩
        · exact ⟨s, List.mem_cons_self .., h3⟩
        · exact ⟨s', List.mem_cons_of_mem _ hs', h3⟩
    · rw [if_neg q]
      obtain ⟨h1, h2, h3⟩ := thF_min (c := c) (w := w) (T := T)
      refine ⟨h1, fun s' hs' => ?_, ?_⟩
      · rcases List.mem_cons.mp hs' with rfl | hs'
        · omega
        · exact h2 _ hs'
      · rcases h3 with h3 | ⟨s', hs', h3⟩
        · exact .inl h3
        · exact .inr ⟨s', List.mem_cons_of_mem _ hs', h3⟩
theorem chT_min {c : List (Int × Ru)} (hc : c ≠ []) : (∀ s ∈ c, (chT c).1 ≤ s.1) ∧ ∃ s ∈ c, (chT c).1 = s.1 := by
  cases c with
  | nil => exact absurd rfl hc
  | cons s c =>
    obtain ⟨h1, h2, h3⟩ := thF_min (c := c) (w := s.1) (T := byR s.2)
    refine ⟨fun s' hs' => ?_, ?_⟩
    · rcases List.mem_cons.mp hs' with rfl | hs'
      · exact h1
      · exact h2 _ hs'
    · rcases h3 with h3 | ⟨s', hs', h3⟩
      · exact ⟨s, List.mem_cons_self .., h3⟩
      · exact ⟨s', List.mem_cons_of_mem _ hs', h3⟩
/-- how great a threshold's denominator is; in lowest terms -/
theorem low_gcd {n d : Int} (hd : 0 < d) : Int.gcd (low n d).1 (low n d).2 = 1 ∧ 0 < (low n d).2 ∧ (low n d).2 ≤ d := by
  obtain ⟨u, hu⟩ : (Int.gcd n d : Int) ∣ n := Int.gcd_dvd_left n d
  obtain ⟨v, hv⟩ : (Int.gcd n d : Int) ∣ d := Int.gcd_dvd_right n d
  have g0 := gcd_pos (a := n) hd
  have e : low n d = (u, v) := by
    unfold low
    refine Prod.ext ?_ ?_
    · show n / (Int.gcd n d : Int) = u
      generalize (Int.gcd n d : Int) = g at *
      rw [hu, Int.mul_ediv_cancel_left _ (by omega)]
    · show d / (Int.gcd n d : Int) = v
      generalize (Int.gcd n d : Int) = g at *
      rw [hv, Int.mul_ediv_cancel_left _ (by omega)]
  have g1 : (Int.gcd n d) = (Int.gcd n d) * Int.gcd u v := by
    have h := Int.gcd_mul_left (Int.gcd n d : Int) u v
    rw [← hu, ← hv] at h
    simpa using h
  rw [e]
  refine ⟨?_, ?_, ?_⟩
  · have : 0 < Int.gcd n d := by omega
    show Int.gcd u v = 1
    have h2 : Int.gcd n d * 1 = Int.gcd n d * Int.gcd u v := by rw [Nat.mul_one]; exact g1
    exact (Nat.eq_of_mul_eq_mul_left this h2).symm
  · show 0 < v
    generalize (Int.gcd n d : Int) = g at *
    rw [hv] at hd
    exact Int.pos_of_mul_pos_right hd g0
  · show v ≤ d
    have v0 : 0 < v := by
      generalize (Int.gcd n d : Int) = g at *
      rw [hv] at hd
      exact Int.pos_of_mul_pos_right hd g0
    have : 1 * v ≤ (Int.gcd n d : Int) * v := Int.mul_le_mul_of_nonneg_right (by omega) (Int.le_of_lt v0)
    rw [← hv] at this
    omega
structure ThB (m : Nat) (T : Bool → Th) : Prop where
  ok : ∀ b, (T b).Ok
  g : ∀ b, Int.gcd (T b).n (T b).d = 1
  l : ∀ b, (T b).d ≤ 2 ^ m
theorem byR_B (r : Ru) : ThB 1 (byR r) := ⟨byR_ok r, fun b => by cases r <;> cases b <;> decide, fun b => by cases r <;> cases b <;> decide⟩
theorem comb_B {m far : Nat} {T : Bool → Th} {r : Ru} (h : ThB m T) (hf : 1 ≤ far) : ThB (m + far) (combI T r far) := by
  refine ⟨comb_ok h.ok hf, fun b => ?_, fun b => ?_⟩
  · exact (low_gcd (Int.mul_pos (h.ok _).d0 (pow2_pos far))).1
  · refine Int.le_trans (low_gcd (Int.mul_pos (h.ok _).d0 (pow2_pos far))).2.2 ?_
    rw [Int.pow_add]
    exact Int.mul_le_mul_of_nonneg_right (h.l _) (Int.le_of_lt (pow2_pos far))
theorem thF_B : ∀ {c : List (Int × Ru)} {w : Int} {m : Nat} {T : Bool → Th}, ThB m T → Fall w c → 1 ≤ w → ∃ m' : Nat, ThB m' (thF w T c).2 ∧ (m' : Int) ≤ m + w ∧ 1 ≤ (thF w T c).1 ∧ (thF w T c).1 ≤ w
  | [], w, m, T, h, _, hw => ⟨m, h, by omega, hw, Int.le_refl _⟩
  | s :: c, w, m, T, h, hf, hw => by
    obtain ⟨f1, f2, f3⟩ := hf
    obtain ⟨m', h1, h2, h3, h4⟩ := thF_B (c := c) (comb_B (r := s.2) (far := (w - s.1).toNat) h (by omega)) f3 f1
    exact ⟨m', h1, by omega, h3, by show (thF s.1 _ c).1 ≤ w; omega⟩
theorem ThB.mono {m m' : Nat} {T : Bool → Th} (h : ThB m T) (hm : m ≤ m') : ThB m' T := ⟨h.ok, h.g, fun b => Int.le_trans (h.l b) (pow_le2 hm)⟩
theorem chT_B {c : List (Int × Ru)} (hc : c ≠ []) (hw : Wds c) : ThB 101 (chT c).2 ∧ 1 ≤ (chT c).1 ∧ (chT c).1 ≤ 100 := by
  cases c with
  | nil => exact absurd rfl hc
  | cons s c =>
    obtain ⟨h1, h2⟩ := hw.hd
    obtain ⟨m, k1, k2, k3, k4⟩ := thF_B (byR_B s.2) (trim_fall (l := s.1) hw.tl) h1
    exact ⟨k1.mono (by omega), k3, by show (thF s.1 _ _).1 ≤ 100; omega⟩
structure Vb (a : Nat) (n d : Int) : Prop where
  hi : n ≤ d * 2 ^ a
  lo : d ≤ n * 2 ^ a
end Z
namespace Z
open L2 PySem PySem.Spec PyProof.Rows
open Evl (Ex ex_l ex_t ex_rd fresh_back)
section
variable {X : Cx} {a b : Expr} {ta tb : DE} {pos : Pos}
def repD (ds : List Da) (n : Nat) : List Da := (List.replicate n ds).flatten
theorem rps_app {K : Fg} {F : Hp} : ∀ {xs ys : List V} {us vs : List Da}, Rps K F xs us → Rps K F ys vs → Rps K F (xs ++ ys) (us ++ vs)
  | _, _, _, _, .nil, h => h
  | _, _, _, _, .cons h t, k => .cons h (rps_app t k)
theorem rps_rep {K : Fg} {F : Hp} {xs : List V} {us : List Da} (h : Rps K F xs us) : ∀ n : Nat, Rps K F ((List.replicate n xs).flatten) ((List.replicate n us).flatten)
  | 0 => .nil
  | n + 1 => by
    rw [List.replicate_succ, List.replicate_succ, List.flatten_cons, List.flatten_cons]
    exact rps_app h (rps_rep h n)
end
theorem lc_mapT {sl : List (Option Sv)} {t : DG} {te : DE} (f : Da → Da) {Q : List Da → Option Nat → Prop} {fu : Option Nat} : ∀ {ds acc : List Da},
    (∀ x ∈ ds, ∀ (R : Rv → Gs → Prop) (N : Gs → Prop), (∀ g3 : Gs, g3.fu = fu → R (.val (f x)) g3) → t (.val x) ⟨sl, fu, false⟩ fun g1 => (true = true → te g1 R) ∧ (true = false → N g1)) → acc.length + ds.length ≤ 1000000 → Q (acc ++ ds.map f) fu → lcD sl t dYes te ds acc fu Q
  | [], acc, _, _, h => by rw [List.map_nil, List.append_nil] at h; exact h
  | x :: xs, acc, hs, hl, h => by
    have ih : lcD sl t dYes te xs (acc ++ [f x]) fu Q := lc_mapT f (fun y hy => hs y (List.mem_cons_of_mem _ hy)) (by rw [List.length_cons] at hl; rw [List.length_append, List.length_cons, List.length_nil]; omega) (by rw [List.append_assoc]; exact h)
    exact hs x List.mem_cons_self (fun r g3 => match r with
      | .val d => acc.length < 1000000 ∧ lcD sl t dYes te xs (acc ++ [d]) (fuN fu g3.fu) Q
      | _ => False) (fun g2 => lcD sl t dYes te xs acc (fuN fu g2.fu) Q) (fun g3 e => ⟨by rw [List.length_cons] at hl; omega, by rw [e, fuN_self]; exact ih⟩)
def stD (s : Int × Ru) : Da := .tuple [.int s.1, .str s.2.s]
def chD (c : List (Int × Ru)) : Da := .tuple (c.map stD)
theorem stD_inj {s s' : Int × Ru} (h : stD s = stD s') : s = s' := by
  obtain ⟨w, r⟩ := s
  obtain ⟨w', r'⟩ := s'
  simp only [stD, PyData.tuple.injEq, List.cons.injEq, PyData.int.injEq, PyData.str.injEq, and_true] at h
  obtain ⟨rfl, h⟩ := h
  refine Prod.ext rfl ?_
  revert h
  cases r <;> cases r' <;> first | exact fun _ => rfl | (intro h; exact absurd h (by decide +kernel))
/-- pairs of an int and a text: may be sorted -/
theorem pairs_sortable {ds : List Da} (h : ∀ d ∈ ds, ∃ (i : Int) (x : Str), d = .tuple [.int i, .str x] ∧ PyData.strOk x = true) :
    PySem.W.AllAlike ds ∧ PySem.W.Sortable ds ∧ ∀ d ∈ ds, d.canLay0 = true ∧ d.depth ≤ 50 := by
  refine ⟨fun d hd e he => ?_, .inl fun d hd => ?_, fun d hd => ?_⟩
  · obtain ⟨i, x, rfl, _⟩ := h d hd
    obtain ⟨j, y, rfl, _⟩ := h e he
    simp [PySem.W.alike, PySem.W.alikeAll]
  · obtain ⟨i, x, rfl, _⟩ := h d hd
    exact ⟨_, _, rfl⟩
  · obtain ⟨i, x, rfl, hx⟩ := h d hd
    refine ⟨?_, ?_⟩
    · simp [PyData.canLay0, PyData.canLayAll0, hx]
    · simp [PyData.depth, PyData.depthAll]
theorem ru_ok (r : Ru) : PyData.strOk r.s = true := by cases r <;> decide +kernel
end Z
namespace Z
open L2 PySem PySem.Spec PyProof.Rows
open Evl (Ex ex_l ex_t ex_rd fresh_back)
/-- a number of values from 2^-a to 2^a -/
structure NuB (a : Nat) (n d : Int) : Prop where
  nu : Nu n d
  v : Vb a n d
  bn : Bn (a + 300) n
  bd : Bn (a + 300) d
theorem NuB.mono {a b : Nat} {n d : Int} (h : NuB a n d) (hab : a ≤ b) : NuB b n d := by
  have p := pow_le2 hab
  have x := Int.mul_le_mul_of_nonneg_left p (Int.le_of_lt h.nu.d0)
  have y := Int.mul_le_mul_of_nonneg_left p (Int.le_of_lt h.nu.n0)
  have := h.v.hi
  have := h.v.lo
  exact ⟨h.nu, ⟨by omega, by omega⟩, h.bn.mono (by omega), h.bd.mono (by omega)⟩
structure Chn1 (c : List (Int × Ru)) : Prop where
  ne : c ≠ []
  len : c.length ≤ 12
  w : Wds c
end Z
namespace Z
open L2 PySem PySem.Spec PyProof.Rows
open Evl (Ex ex_l ex_t ex_rd fresh_back)
def sdS : Bool → Str
  | true => "up"
  | false => "down"
def thD (t : Th) : Da := .tuple [num t.n t.d, .str (sdS t.up)]
def prF (T : Bool → Th) : Da := .tuple [thD (T false), thD (T true)]
def prD (w : Int) (T : Bool → Th) : Da := .tuple [if w = 1 then .none else thD (T false), thD (T true)]
theorem sd_ok (b : Bool) : PyData.strOk (sdS b) = true := by cases b <;> decide +kernel
theorem shaped_sd (b : Bool) : SeqAt.shaped (.str (sdS b)) = true := by cases b <;> decide +kernel
theorem shaped_up : SeqAt.shaped (.str "up") = true := shaped_sd true
theorem shaped_dn : SeqAt.shaped (.str "down") = true := shaped_sd false
theorem dec_up (b : Bool) : (sdS b = ("up" : Str)) ↔ b = true := by cases b <;> decide +kernel
theorem dec_dn (b : Bool) : (sdS b = ("down" : Str)) ↔ b = false := by cases b <;> decide +kernel
theorem atI_par {α : Type} {x y : α} {i : Int} (h0 : 0 ≤ i) (h1 : i ≤ 1) : atI [x, y] i = some (if i = 1 then y else x) := by
  by_cases h : i = 1
  · subst h; rfl
  · have : i = 0 := by omega
    subst this; rfl
theorem mod2 (k : Int) : 0 ≤ k % 2 ∧ k % 2 ≤ 1 := by omega
theorem pick_par {T : Bool → Th} {k : Int} : atI [thD (T false), thD (T true)] (k % 2) = some (thD (T (decide (k % 2 = 1)))) := by
  rw [atI_par (mod2 k).1 (mod2 k).2]
  by_cases h : k % 2 = 1
  · rw [if_pos h, decide_eq_true h]
  · rw [if_neg h, decide_eq_false h]
theorem Bn.leP {m : Nat} {i : Int} (h0 : 0 ≤ i) (h : i ≤ 2 ^ m) : Bn (m + 1) i := (Bn.pow2 (n := m) (m := m + 1) (by omega)).le h0 h
theorem ThB.bn {m : Nat} {T : Bool → Th} (h : ThB m T) (b : Bool) : Bn (m + 1) (T b).n ∧ Bn (m + 1) (T b).d :=
  ⟨Bn.leP (h.ok b).n0 (Int.le_trans (h.ok b).nd (h.l b)), Bn.leP (Int.le_of_lt (h.ok b).d0) (h.l b)⟩
end Z
namespace Z
open L2 PySem PySem.Spec PyProof.Rows
open Evl (Ex ex_l ex_t ex_rd fresh_back)
def dD0 : DE := fun g Q => Q (.val (.dict [])) g
section
variable {X : Cx} {pos : Pos} {k e : Expr}
theorem e_d0 : PE X (.Dict [] [] pos) (up X.K dD0) := pe_to pe_dnewK fun σ H Q q => by
  obtain ⟨c, g, tv, tr, F, a, post, s, t, k⟩ := q
  intro p hp
  have gr := Gr.new (o := .dK []) s.eh hp
  exact k _ g _ _ _ a t ((s.grow gr).push (r := .val (.dict [])) (.dct (.inl upd_same) .nil))
end
theorem kdct_of2 {K : Fg} {w : World} {a : Addr} {es : Array DictEntry} {n : Nat} {x : Str} {u : Value} {v : V} (h : K.lookup a = some ⟨.type "dict", none, .dict es n, #[]⟩) (hk : PySem.W.KeysLit w.params es.toList) (hx : PySem.W.nsIn K a x = some (some u)) (r : RelV v u) : KDct K w a x v :=
  ⟨es, n, u, h, hk, hx, r⟩
end Z
namespace Z
open L2 PySem PySem.Spec PyProof.Rows
open Evl (Ex ex_l ex_t ex_rd fresh_back)
end Z
namespace Z
open L2 PySem PySem.Spec PyProof.Rows
open Evl (Ex ex_l ex_t ex_rd fresh_back)
end Z
namespace Z
open L2 PySem PySem.Spec PyProof.Rows
open Evl (Ex ex_l ex_t ex_rd fresh_back)
theorem low_dvd {n d m : Int} (hd : 0 < d) (h : d ∣ m) : (low n d).2 ∣ m := by
  obtain ⟨v, hv⟩ : (Int.gcd n d : Int) ∣ d := Int.gcd_dvd_right n d
  have g0 := gcd_pos (a := n) hd
  have e : (low n d).2 = v := by
    show d / (Int.gcd n d : Int) = v
    generalize (Int.gcd n d : Int) = g at *
    rw [hv, Int.mul_ediv_cancel_left _ (by omega)]
  rw [e]
  refine Int.dvd_trans ?_ h
  exact ⟨(Int.gcd n d : Int), by rw [Int.mul_comm]; exact hv⟩
theorem pow_dvd2 {a b : Nat} (h : a ≤ b) : (2 : Int) ^ a ∣ 2 ^ b := by
  obtain ⟨c, rfl⟩ : ∃ c, b = a + c := ⟨b - a, by omega⟩
  exact ⟨2 ^ c, Int.pow_add 2 a c⟩
def ThDv (m : Nat) (T : Bool → Th) : Prop := ∀ b, (T b).d ∣ 2 ^ m
theorem byR_dv (r : Ru) : ThDv 1 (byR r) := fun b => by cases r <;> cases b <;> decide
theorem comb_dv {m far : Nat} {T : Bool → Th} {r : Ru} (h : ThDv m T) (hT : ∀ b, (T b).Ok) : ThDv (m + far) (combI T r far) := fun b => by
  refine low_dvd (Int.mul_pos (hT _).d0 (pow2_pos far)) ?_
  rw [Int.pow_add]
  exact Int.mul_dvd_mul (h _) (Int.dvd_refl _)
theorem thF_dv : ∀ {c : List (Int × Ru)} {w : Int} {m : Nat} {T : Bool → Th}, ThDv m T → (∀ b, (T b).Ok) → Fall w c → ∃ m' : Nat, ThDv m' (thF w T c).2 ∧ (m' : Int) + (thF w T c).1 = m + w
  | [], w, m, T, h, _, _ => ⟨m, h, rfl⟩
  | s :: c, w, m, T, h, hT, hf => by
    obtain ⟨f1, f2, f3⟩ := hf
    obtain ⟨m', h1, h2⟩ := thF_dv (c := c) (comb_dv (r := s.2) (far := (w - s.1).toNat) h hT) (comb_ok hT (by omega)) f3
    exact ⟨m', h1, by show (m' : Int) + (thF s.1 _ c).1 = _; omega⟩
/-- the denominators divide half the grid -/
theorem chT_dv {c : List (Int × Ru)} {W : Int} (hc : c ≠ []) (hw : Wds c) (hW : ∀ s ∈ c, s.1 ≤ W) : ThDv (W - (chT c).1 + 1).toNat (chT c).2 := by
  cases c with
  | nil => exact absurd rfl hc
  | cons s c =>
    obtain ⟨m', h1, h2⟩ := thF_dv (c := trimI (some s.1) c) (byR_dv s.2) (byR_ok s.2) (trim_fall hw.tl)
    have := hW s List.mem_cons_self
    have e : chT (s :: c) = thF s.1 (byR s.2) (trimI (some s.1) c) := rfl
    intro b
    rw [e] at *
    refine Int.dvd_trans (h1 b) (pow_dvd2 ?_)
    omega
end Z
namespace Z
open L2 PySem PySem.Spec PyProof.Rows
open Evl (Ex ex_l ex_t ex_rd fresh_back)
theorem gcd_divW {n d x : Int} (hd : 0 < d) (hs : Bn 9000 d) : CDivW x (Int.gcd n d) := divX 9000 (gcd_pos hd) (hs.le (Int.le_of_lt (gcd_pos hd)) (gcd_le hd)) (Nat.le_refl _)
theorem low_le {n d : Int} (hn : 0 ≤ n) (hd : 0 < d) : 0 ≤ (low n d).1 ∧ (low n d).1 ≤ n := ⟨Int.ediv_nonneg hn (Int.le_of_lt (gcd_pos hd)), Int.ediv_le_self _ hn⟩
end Z
namespace Z
open L2 PySem PySem.Spec PyProof.Rows
open Evl (Ex ex_l ex_t ex_rd fresh_back)
end Z
namespace LZ
open PySem
open PySem.Sem (wp)
section
variable {prog : Program} {w : World} {A : Around} {E : Value → Shared → Prop} {s : Shared} {q TI TO T u1 u2 t1 t2 : Addr} {f : Bool} {oT : Obj} {k : Nat} {xs ys : Array Value}
theorem held_item {x y : Value} {Q : Value → Shared → Prop} (D : ZipApart q TI TO u1 u2 t1 t2) (hq : IsZipHeld s.heap q TI TO T f) (hT : s.heap.get? T = some oT) (hI : IsPair s.heap TI (.ref u1) (.ref u2))
    (g1 : s.heap.IsTupleIter u1 t1 k) (g2 : s.heap.IsTupleIter u2 t2 k) (m1 : s.heap.IsTuple t1 xs) (m2 : s.heap.IsTuple t2 ys) (ex : xs[k]? = some x) (ey : ys[k]? = some y)
    (hQ : ∀ h', IsZipHeld h' q TI TO T true → h'.IsTupleIter u1 t1 (k + 1) → h'.IsTupleIter u2 t2 (k + 1) → IsPair h' s.heap.objs.size x y → h'.objs.size = s.heap.objs.size + 1 →
      (∀ c o, c ≠ q → c ≠ u1 → c ≠ u2 → s.heap.get? c = some o → h'.get? c = some o) → Q (.ref s.heap.objs.size) { s with heap := h' }) :
    wpAny (model prog w) A (Builtin.«zip.__next__» ⟨[.ref q], []⟩) (fun fin s' => ∃ v, fin = .done (.ret v) ∧ Q v s') E s := by
  show wpAny _ _ (field (.ref q) 2 >>= _) _ _ _; refine wpAny_bind (wpAny_field hq rfl (x := .bool false) rfl ?_)
  show wpAny _ _ (field (.ref q) 3 >>= _) _ _ _; refine wpAny_bind (wpAny_field hq rfl (x := .ref TI) rfl (wpAny_bind (wpAny_seqItems hI rfl ?_)))
  show wpAny _ _ (Builtin.SmallTypes.ownedTupleIsFree (.ref q) >>= _) _ _ _; refine wpAny_bind (wpAny_tupleHeld_zip hq hT fun a1 b1 c1 => ?_)
  simp only [Bool.false_eq_true, if_false]; refine wpAny_bind ?_; rw [← Array.forIn_toList]; simp only [List.forIn_cons, List.forIn_nil]
  refine wpAny_bind (wpAny_bind (wpAny_holding ?_)); show wpAny _ _ (Builtin.SmallTypes.nextOf (.ref u1) >>= _) _ _ _
  refine wpAny_bind (RZ.nextOf_tuple_item (s := { s with heap := a1 }) (g1.extBut c1.extBut D.i1z) (m1.extBut c1.extBut D.l1z) ex fun a2 b2 c2 => wpAny_pure (wpAny_pure ?_))
  refine wpAny_bind (wpAny_bind (wpAny_holding ?_)); show wpAny _ _ (Builtin.SmallTypes.nextOf (.ref u2) >>= _) _ _ _
  refine wpAny_bind (RZ.nextOf_tuple_item (s := { s with heap := a2 }) ((g2.extBut c1.extBut D.i2z).extBut c2.extBut D.i12.symm) ((m2.extBut c1.extBut D.l2z).extBut c2.extBut D.l2i1) ey fun a3 b3 c3 => wpAny_pure (wpAny_pure (wpAny_pure ?_)))
  show wpAny _ _ (newTuple [x, y] >>= _) _ _ _; refine wpAny_bind (wpAny_newTuple ?_)
  have n3 : a3.objs.size = s.heap.objs.size := by rw [c3.1, c2.1, c1.1]
  have r3 : IsZipHeld a3 q TI TO T true := c3.extBut _ _ D.i2z.symm (c2.extBut _ _ D.i1z.symm b1)
  have kp : ∀ c o, c ≠ q → c ≠ u1 → c ≠ u2 → s.heap.get? c = some o → a3.get? c = some o := fun c o e1 e2 e3 e => c3.extBut _ _ e3 (c2.extBut _ _ e2 (c1.extBut _ _ e1 e))
  refine wpAny_pure ⟨_, rfl, ?_⟩; show Q (.ref a3.objs.size) _
  have np : IsPair (a3.push { cls := .type "tuple", data := .seq #[x, y] }) a3.objs.size x y := Heap.get?_push_size _ rfl
  have nz : (a3.push { cls := .type "tuple", data := .seq #[x, y] }).objs.size = a3.objs.size + 1 := Heap.size_push ..
  rw [n3] at np nz ⊢
  exact hQ _ (Heap.get?_push_of_some _ r3) ((b2.extBut c3.extBut D.i12).at fun o e => Heap.get?_push_of_some _ e) (b3.at fun o e => Heap.get?_push_of_some _ e) np nz fun c o e1 e2 e3 e => Heap.get?_push_of_some _ (kp c o e1 e2 e3 e)
theorem held_end {Q : Fin → Shared → Prop} (hh : A.handled = none) (D : ZipApart q TI TO u1 u2 t1 t2) (hq : IsZipHeld s.heap q TI TO T f) (hT : s.heap.get? T = some oT) (hI : IsPair s.heap TI (.ref u1) (.ref u2))
    (g1 : s.heap.IsTupleIter u1 t1 k) (m1 : s.heap.IsTuple t1 xs) (ex : xs[k]? = none)
    (hE : ∀ h' e, (∀ c o, c ≠ q → c ≠ u1 → c ≠ u2 → s.heap.get? c = some o → h'.get? c = some o) → (∃ o, h'.get? e = some o ∧ o.cls = .type "StopIteration") → E (.ref e) { s with heap := h' }) :
    wpAny (model prog w) A (Builtin.«zip.__next__» ⟨[.ref q], []⟩) Q E s := by
  show wpAny _ _ (field (.ref q) 2 >>= _) _ _ _; refine wpAny_bind (wpAny_field hq rfl (x := .bool false) rfl ?_)
  show wpAny _ _ (field (.ref q) 3 >>= _) _ _ _; refine wpAny_bind (wpAny_field hq rfl (x := .ref TI) rfl (wpAny_bind (wpAny_seqItems hI rfl ?_)))
  show wpAny _ _ (Builtin.SmallTypes.ownedTupleIsFree (.ref q) >>= _) _ _ _; refine wpAny_bind (wpAny_tupleHeld_zip hq hT fun a1 b1 c1 => ?_)
  simp only [Bool.false_eq_true, if_false]; refine wpAny_bind ?_; rw [← Array.forIn_toList]; simp only [List.forIn_cons, List.forIn_nil]
  refine wpAny_bind (wpAny_bind (wpAny_holding ?_)); show wpAny _ _ (Builtin.SmallTypes.nextOf (.ref u1) >>= _) _ _ _
  refine wpAny_bind (RZ.nextOf_tuple_end (s := { s with heap := a1 }) hh (g1.extBut c1.extBut D.i1z) (m1.extBut c1.extBut D.l1z) ex fun a2 e c2 he => ?_)
  exact hE a2 e (fun c o e1 e2 _ z => c2 _ _ e2 (c1.extBut _ _ e1 z)) he
theorem next_held {x y : Value} {Q : Option Value → Shared → Prop} (D : ZipApart q TI TO u1 u2 t1 t2) (hq : IsZipHeld s.heap q TI TO T f) (hT : s.heap.get? T = some oT) (hI : IsPair s.heap TI (.ref u1) (.ref u2))
    (g1 : s.heap.IsTupleIter u1 t1 k) (g2 : s.heap.IsTupleIter u2 t2 k) (m1 : s.heap.IsTuple t1 xs) (m2 : s.heap.IsTuple t2 ys) (ex : xs[k]? = some x) (ey : ys[k]? = some y)
    (hQ : ∀ h', IsZipHeld h' q TI TO T true → h'.IsTupleIter u1 t1 (k + 1) → h'.IsTupleIter u2 t2 (k + 1) → IsPair h' s.heap.objs.size x y → h'.objs.size = s.heap.objs.size + 1 →
      (∀ c o, c ≠ q → c ≠ u1 → c ≠ u2 → s.heap.get? c = some o → h'.get? c = some o) → Q (some (.ref s.heap.objs.size)) { s with heap := h' }) :
    wpAny (model prog w) A (pyNext (.ref q)) Q E s := by
  have ty : s.TypeIs (.ref q) "zip" := ⟨_, hq, rfl⟩
  unfold pyNext
  exact wpAny_bind (wpAny_attempt (wpAny_callSpecial?_slot (name := Str.ofString "__next__") ty F.slot_zip_next (wpAny_call_entry F.slot_zip_next ty F.entry_zip_next (held_item D hq hT hI g1 g2 m1 m2 ex ey fun h' a1 a3 a4 a5 a6 a7 => wpAny_pure (hQ h' a1 a3 a4 a5 a6 a7)) (F.args_zip_next_1 _))))
theorem next_held_end {Q : Option Value → Shared → Prop} (hh : A.handled = none) (D : ZipApart q TI TO u1 u2 t1 t2) (hq : IsZipHeld s.heap q TI TO T f) (hT : s.heap.get? T = some oT) (hI : IsPair s.heap TI (.ref u1) (.ref u2))
    (g1 : s.heap.IsTupleIter u1 t1 k) (m1 : s.heap.IsTuple t1 xs) (ex : xs[k]? = none)
    (hQ : ∀ h', (∀ c o, c ≠ q → c ≠ u1 → c ≠ u2 → s.heap.get? c = some o → h'.get? c = some o) → Q none { s with heap := h' }) : wpAny (model prog w) A (pyNext (.ref q)) Q E s := by
  have ty : s.TypeIs (.ref q) "zip" := ⟨_, hq, rfl⟩
  unfold pyNext
  refine wpAny_bind (wpAny_attempt (wpAny_callSpecial?_slot (name := Str.ofString "__next__") ty F.slot_zip_next (wpAny_call_entry F.slot_zip_next ty F.entry_zip_next (held_end hh D hq hT hI g1 m1 ex fun h' e hk he => ?_) (F.args_zip_next_1 _))))
  obtain ⟨o, ho, hc⟩ := he
  refine wpAny_bind (wpAny_isInstance (T := "StopIteration") (b := true) ⟨o, ho, hc⟩ isSubtype_stop (wpAny_pure (hQ _ hk)))
end
theorem no_len : typeLookup (.type "zip") "__len__" = pure none := by (rw [typeLookup_type, builtinLookup_eq_fast]; kernel_rfl)
theorem no_hint : typeLookup (.type "zip") "__length_hint__" = pure none := by (rw [typeLookup_type, builtinLookup_eq_fast]; kernel_rfl)
section
variable {prog : Program} {w : World} {A : Around} {s : Shared} {R : Result → Shared → Prop} {q TI TO u1 u2 t1 t2 S : Addr} {x0 x1 y0 y1 a b : Value}
/-- what the zip stands for, ahead of the first pair -/
structure Fresh (h : Heap) (q TI TO u1 u2 t1 t2 : Addr) (x0 x1 y0 y1 a b : Value) : Prop where
  D : ZipApart q TI TO u1 u2 t1 t2
  z : IsZip h q TI TO .none
  i : IsPair h TI (.ref u1) (.ref u2)
  o : IsPair h TO a b
  g1 : h.IsTupleIter u1 t1 0
  g2 : h.IsTupleIter u2 t2 0
  m1 : h.IsTuple t1 #[x0, x1]
  m2 : h.IsTuple t2 #[y0, y1]
theorem Fresh.keep {h h' : Heap} (F : Fresh h q TI TO u1 u2 t1 t2 x0 x1 y0 y1 a b) (hS : S ≠ q ∧ S ≠ TI ∧ S ≠ TO ∧ S ≠ u1 ∧ S ≠ u2 ∧ S ≠ t1 ∧ S ≠ t2) (hk : ∀ c o, c ≠ S → h.get? c = some o → h'.get? c = some o) : Fresh h' q TI TO u1 u2 t1 t2 x0 x1 y0 y1 a b := by
  obtain ⟨s1, s2, s3, s4, s5, s6, s7⟩ := hS
  exact ⟨F.D, hk _ _ s1.symm F.z, hk _ _ s2.symm F.i, hk _ _ s3.symm F.o, F.g1.at fun o e => hk _ o s4.symm e, F.g2.at fun o e => hk _ o s5.symm e, F.m1.at fun o e => hk _ o s6.symm e, F.m2.at fun o e => hk _ o s7.symm e⟩
theorem loop2 {h : Heap} {c0 tk : Nat} {res : Value} (hh : A.handled = none) (F : Fresh h q TI TO u1 u2 t1 t2 x0 x1 y0 y1 a b) (hS : S ≠ q ∧ S ≠ TI ∧ S ≠ TO ∧ S ≠ u1 ∧ S ≠ u2 ∧ S ≠ t1 ∧ S ≠ t2) (hl : h.get? S = some { cls := .type "list", data := .seq #[] c0 })
    (hR : ∀ h' c T0 T1, (∀ d o, d ≠ S → d ≠ q → d ≠ TO → d ≠ u1 → d ≠ u2 → h.get? d = some o → h'.get? d = some o) → h.objs.size ≤ T0 → h.objs.size ≤ T1 → T0 ≠ T1 → T0 ≠ S → T1 ≠ S → IsPair h' T0 x0 y0 → IsPair h' T1 x1 y1 →
      h'.get? S = some { cls := .type "list", dict := none, data := .seq #[.ref T0, .ref T1] c, slots := #[] } → R (.ok (.ret res)) { s with heap := h', toks := tk }) :
    codeAny (model prog w) A (.builtin "list.extend.loop" ⟨[.ref S, .ref q, res], []⟩) R { s with heap := h, toks := tk } := by
  obtain ⟨s1, s2, s3, s4, s5, s6, s7⟩ := hS
  have D := F.D
  have Sl : S < h.objs.size := Heap.lt_size hl
  refine codeAny_builtin PySem.F.entry_extend_loop ?_; rw [Around.under_plainId PySem.F.plain_extend_loop _]
  show wpAny _ A.in1 (pyNext (.ref q) >>= _) _ _ _
  refine wpAny_bind (RZ.pyNext_zipT_item (s := { s with heap := h, toks := tk }) D F.z F.i F.o F.g1 F.g2 F.m1 F.m2 (k1 := 0) (k2 := 0) (x := x0) (y := y0) rfl rfl fun p e1 e2 e3 e4 e5 e6 e7 => ?_)
  dsimp only at e5 e6 e7
  have l1 : p.get? S = some { cls := .type "list", data := .seq #[] c0 } := e7 S _ s1 s3 s4 s5 hl
  show wpAny _ A.in1 (updateSeq S (·.push (Value.ref h.objs.size)) >>= _) _ _ _; refine wpAny_bind ?_
  refine wpAny_updateSeq l1 rfl (wpAny_pure ⟨plainId_quiet PySem.F.plain_extend_loop _, ?_⟩)
  have l2 := Heap.get?_update_self (Obj.mapSeq (·.push (Value.ref h.objs.size))) l1 rfl
  have v1 : ∀ d o, d ≠ S → p.get? d = some o → (p.update S (Obj.mapSeq (·.push (Value.ref h.objs.size)))).get? d = some o := fun d o hd e => (Heap.get?_update_other _ _ (Ne.symm hd)).trans e
  generalize p.update S (Obj.mapSeq (·.push (Value.ref h.objs.size))) = p1 at l2 v1 ⊢
  have n0 : h.objs.size ≠ S := Nat.ne_of_gt Sl
  have t0 := v1 _ _ n0 e5
  have z0 : h.objs.size < p1.objs.size := Heap.lt_size t0
  have w1 : ∀ d o, d ≠ S → d ≠ q → d ≠ TO → d ≠ u1 → d ≠ u2 → h.get? d = some o → p1.get? d = some o := fun d o d1 d2 d3 d4 d5 e => v1 d o d1 (e7 d o d2 d3 d4 d5 e)
  have M1 : p1.IsTuple t1 #[x0, x1] := F.m1.at fun o e => w1 t1 o s6.symm D.l1z D.l1TO D.l1i1 D.l1i2 e
  have M2 : p1.IsTuple t2 #[y0, y1] := F.m2.at fun o e => w1 t2 o s7.symm D.l2z D.l2TO D.l2i1 D.l2i2 e
  have I1 : IsPair p1 TI (.ref u1) (.ref u2) := w1 TI _ s2.symm D.TIz D.TITO D.TIi1 D.TIi2 F.i
  refine codeAny_builtin PySem.F.entry_extend_loop ?_; rw [Around.under_plainId PySem.F.plain_extend_loop _]
  show wpAny _ A.in1 (pyNext (.ref q) >>= _) _ _ _
  refine wpAny_bind (next_held (s := { s with heap := p1, toks := tk }) D (T := h.objs.size) (f := false) (v1 _ _ s1.symm e1) t0 I1 (e3.at fun o e => v1 _ o s4.symm e) (e4.at fun o e => v1 _ o s5.symm e) M1 M2 (x := x1) (y := y1) rfl rfl fun p2 k1 k3 k4 k5 k6 k7 => ?_)
  dsimp only at k5 k6 k7
  have l3 := k7 S _ s1 s4 s5 l2
  show wpAny _ A.in1 (updateSeq S (·.push (Value.ref p1.objs.size)) >>= _) _ _ _; refine wpAny_bind ?_
  refine wpAny_updateSeq l3 rfl (wpAny_pure ⟨plainId_quiet PySem.F.plain_extend_loop _, ?_⟩)
  have l4 := Heap.get?_update_self (Obj.mapSeq (·.push (Value.ref p1.objs.size))) l3 rfl
  have v2 : ∀ d o, d ≠ S → p2.get? d = some o → (p2.update S (Obj.mapSeq (·.push (Value.ref p1.objs.size)))).get? d = some o := fun d o hd e => (Heap.get?_update_other _ _ (Ne.symm hd)).trans e
  generalize p2.update S (Obj.mapSeq (·.push (Value.ref p1.objs.size))) = p3 at l4 v2 ⊢
  have Sl1 : S < p1.objs.size := Heap.lt_size l2
  have n1 : p1.objs.size ≠ S := Nat.ne_of_gt Sl1
  have qn : h.objs.size ≠ q := Nat.ne_of_gt (Heap.lt_size F.z)
  have un1 : h.objs.size ≠ u1 := by obtain ⟨_, e, _⟩ := F.g1; exact Nat.ne_of_gt (Heap.lt_size e)
  have un2 : h.objs.size ≠ u2 := by obtain ⟨_, e, _⟩ := F.g2; exact Nat.ne_of_gt (Heap.lt_size e)
  have t3 := v2 _ _ n0 (k7 _ _ qn un1 un2 t0)
  have w3 : ∀ d o, d ≠ S → d ≠ q → d ≠ TO → d ≠ u1 → d ≠ u2 → h.get? d = some o → p3.get? d = some o := fun d o d1 d2 d3 d4 d5 e => v2 d o d1 (k7 d o d2 d4 d5 (w1 d o d1 d2 d3 d4 d5 e))
  have M3 : p3.IsTuple t1 #[x0, x1] := F.m1.at fun o e => w3 t1 o s6.symm D.l1z D.l1TO D.l1i1 D.l1i2 e
  have I3 : IsPair p3 TI (.ref u1) (.ref u2) := w3 TI _ s2.symm D.TIz D.TITO D.TIi1 D.TIi2 F.i
  refine codeAny_builtin PySem.F.entry_extend_loop ?_; rw [Around.under_plainId PySem.F.plain_extend_loop _]
  show wpAny _ A.in1 (pyNext (.ref q) >>= _) _ _ _
  refine wpAny_bind (next_held_end (A := A.in1) (s := { s with heap := p3, toks := tk }) hh D (T := h.objs.size) (f := true) (k := 2) (v2 _ _ s1.symm k1) t3 I3 (k3.at fun o e => v2 _ o s4.symm e) M3 rfl fun p4 j1 => ?_)
  dsimp only at j1
  have q3 : p1.objs.size ≠ q := Nat.ne_of_gt (Heap.lt_size (v1 _ _ s1.symm e1))
  have q4 : p1.objs.size ≠ u1 := by obtain ⟨_, e, _⟩ := e3; exact Nat.ne_of_gt (Heap.lt_size (v1 _ _ s4.symm e))
  have q5 : p1.objs.size ≠ u2 := by obtain ⟨_, e, _⟩ := e4; exact Nat.ne_of_gt (Heap.lt_size (v1 _ _ s5.symm e))
  refine wpAny_pure (hR p4 _ h.objs.size p1.objs.size (fun d o d1 d2 d3 d4 d5 e => j1 d o d2 d4 d5 (w3 d o d1 d2 d3 d4 d5 e)) (Nat.le_refl _) (Nat.le_of_lt z0) (Nat.ne_of_lt z0) n0 n1 (j1 _ _ qn un1 un2 t3) (j1 _ _ q3 q4 q5 (v2 _ _ n1 k5)) (j1 S _ s1 s4 s5 l4))
theorem extend2 {c0 : Nat} {res : Value} (hh : A.handled = none) (F : Fresh s.heap q TI TO u1 u2 t1 t2 x0 x1 y0 y1 a b) (hS : S ≠ q ∧ S ≠ TI ∧ S ≠ TO ∧ S ≠ u1 ∧ S ≠ u2 ∧ S ≠ t1 ∧ S ≠ t2) (hl : s.heap.get? S = some { cls := .type "list", data := .seq #[] c0 })
    (hR : ∀ h' c T0 T1, (∀ d o, d ≠ S → d ≠ q → d ≠ TO → d ≠ u1 → d ≠ u2 → s.heap.get? d = some o → h'.get? d = some o) → s.heap.objs.size ≤ T0 → s.heap.objs.size ≤ T1 → T0 ≠ T1 → T0 ≠ S → T1 ≠ S → IsPair h' T0 x0 y0 → IsPair h' T1 x1 y1 →
      h'.get? S = some { cls := .type "list", dict := none, data := .seq #[.ref T0, .ref T1] c, slots := #[] } → R (.ok (.ret res)) { s with heap := h' }) :
    wpAny (model prog w) A.in1 (Builtin.List.listExtendWith (.ref S) (.ref q) res)
      (fun fin s' => match fin with | .done f => R (.ok f) s' | .again c' => c'.quiet = true ∧ codeAny (model prog w) A c' R s') (fun e s' => R (.error e) s') s := by
  have ty : ∀ h : Heap, IsZip h q TI TO .none → ({ s with heap := h } : Shared).TypeIs (.ref q) "zip" := fun h e => ⟨_, e, rfl⟩
  unfold Builtin.List.listExtendWith
  refine wpAny_bind (wpAny_typeOf (T := "zip") (ty _ F.z) ?_)
  have h1 : Builtin.List.listSameRef (.ref S) (.ref q) = false := by simp [Builtin.List.listSameRef, hS.1]
  have h2 : (Value.type "zip" == Value.type "list") = false := by decide
  have h3 : (Value.type "zip" == Value.type "tuple") = false := by decide
  simp only [h1, h2, h3, Bool.or_false, Bool.false_eq_true, if_false]
  refine wpAny_bind (wpAny_pyIter_zip F.z (wpAny_bind (wpAny_holding ?_)))
  unfold Builtin.List.listLengthHint
  refine wpAny_bind (wpAny_specialOf (ty _ F.z) no_len ?_); show wpAny _ A.in1 (specialOf (Value.ref q) (Str.ofString "__length_hint__") >>= _) _ _ _
  refine wpAny_bind (wpAny_specialOf (ty _ F.z) no_hint (wpAny_pure ?_))
  show wpAny _ A.in1 (rule "list.extend.makes-room" >>= fun _ => Builtin.List.listTouch (.ref S) >>= fun _ => again (.builtin "list.extend.loop" ⟨[.ref S, .ref q, res], []⟩)) _ _ _
  refine wpAny_bind (wpAny_rule (wpAny_bind ?_)); show wpAny _ A.in1 (updateSeq S (·.push .none) >>= fun _ => updateSeq S (·.pop)) _ _ _
  refine wpAny_bind (wpAny_updateSeq hl rfl ?_); have r2 := Heap.get?_update_self (Obj.mapSeq (·.push Value.none)) hl rfl
  refine wpAny_updateSeq (hz := by seq_fits) r2 rfl ?_; have r3 := Heap.get?_update_self (Obj.mapSeq (·.pop)) r2 rfl
  have kp : ∀ d o, d ≠ S → s.heap.get? d = some o → ((s.heap.update S (Obj.mapSeq (·.push Value.none))).update S (Obj.mapSeq (·.pop))).get? d = some o := fun d o hd e => (Heap.get?_update_other _ _ (Ne.symm hd)).trans ((Heap.get?_update_other _ _ (Ne.symm hd)).trans e)
  have sz : ((s.heap.update S (Obj.mapSeq (·.push Value.none))).update S (Obj.mapSeq (·.pop))).objs.size = s.heap.objs.size := by rw [(Heap.SameBut.update ..).1, (Heap.SameBut.update ..).1]
  refine wpAny_pure ⟨plainId_quiet PySem.F.plain_extend_loop _, loop2 (s := s) (tk := s.toks) hh (F.keep hS kp) hS r3 fun h' c T0 T1 j1 j2 j3 j4 j5 j6 j7 j8 j9 => ?_⟩
  exact hR h' c T0 T1 (fun d o d1 d2 d3 d4 d5 e => j1 d o d1 d2 d3 d4 d5 (kp d o d1 e)) (by rw [← sz]; exact j2) (by rw [← sz]; exact j3) j4 j5 j6 j7 j8 j9
theorem init2 (hh : A.handled = none) (F : Fresh s.heap q TI TO u1 u2 t1 t2 x0 x1 y0 y1 a b) (hS : S ≠ q ∧ S ≠ TI ∧ S ≠ TO ∧ S ≠ u1 ∧ S ≠ u2 ∧ S ≠ t1 ∧ S ≠ t2) (hl : s.heap.get? S = some { cls := .type "list", data := .seq #[] })
    (hR : ∀ h' c T0 T1, (∀ d o, d ≠ S → d ≠ q → d ≠ TO → d ≠ u1 → d ≠ u2 → s.heap.get? d = some o → h'.get? d = some o) → s.heap.objs.size ≤ T0 → s.heap.objs.size ≤ T1 → T0 ≠ T1 → T0 ≠ S → T1 ≠ S → IsPair h' T0 x0 y0 → IsPair h' T1 x1 y1 →
      h'.get? S = some { cls := .type "list", dict := none, data := .seq #[.ref T0, .ref T1] c, slots := #[] } → R (.ok (.ret .none)) { s with heap := h' }) :
    wpAny (model prog w) A.in1 (Builtin.«list.__init__» ⟨[.ref S, .ref q], []⟩)
      (fun fin s' => match fin with | .done f => R (.ok f) s' | .again c' => c'.quiet = true ∧ codeAny (model prog w) A c' R s') (fun e s' => R (.error e) s') s := by
  show wpAny _ A.in1 (do let old ← Builtin.List.listItems (.ref S); Builtin.List.listUpdate (.ref S) (fun _ => #[]); letGo old.toList.reverse; Builtin.List.listExtendWith (.ref S) (.ref q) .none) _ _ s
  refine wpAny_bind ?_; unfold Builtin.List.listItems; refine wpAny_bind (wpAny_seqItems hl rfl (wpAny_pure ?_))
  show wpAny _ A.in1 (updateSeq S (fun _ => #[]) >>= fun _ => letGo (#[] : Array Value).toList.reverse >>= fun _ => Builtin.List.listExtendWith (.ref S) (.ref q) .none) _ _ s
  refine wpAny_bind (wpAny_updateSeq hl rfl ?_); have r2 := Heap.get?_update_self (Obj.mapSeq (fun _ => (#[] : Array Value))) hl rfl
  have kp : ∀ d o, d ≠ S → s.heap.get? d = some o → (s.heap.update S (Obj.mapSeq (fun _ => (#[] : Array Value)))).get? d = some o := fun d o hd e => (Heap.get?_update_other _ _ (Ne.symm hd)).trans e
  have sz : (s.heap.update S (Obj.mapSeq (fun _ => (#[] : Array Value)))).objs.size = s.heap.objs.size := (Heap.SameBut.update ..).1
  refine wpAny_bind (wpAny_letGo (extend2 (s := { s with heap := _ }) hh (F.keep hS kp) hS r2 fun h' c T0 T1 j1 j2 j3 j4 j5 j6 j7 j8 j9 => ?_))
  exact hR h' c T0 T1 (fun d o d1 d2 d3 d4 d5 e => j1 d o d1 d2 d3 d4 d5 (kp d o d1 e)) (by rw [← sz]; exact j2) (by rw [← sz]; exact j3) j4 j5 j6 j7 j8 j9
theorem call2 {E : Value → Shared → Prop} {Q : Value → Shared → Prop} (hh : A.handled = none) (F : Fresh s.heap q TI TO u1 u2 t1 t2 x0 x1 y0 y1 a b)
    (hQ : ∀ h' c T0 T1, (∀ d o, d ≠ q → d ≠ TO → d ≠ u1 → d ≠ u2 → s.heap.get? d = some o → h'.get? d = some o) → s.heap.objs.size < T0 → s.heap.objs.size < T1 → T0 ≠ T1 → IsPair h' T0 x0 y0 → IsPair h' T1 x1 y1 →
      h'.get? s.heap.objs.size = some { cls := .type "list", dict := none, data := .seq #[.ref T0, .ref T1] c, slots := #[] } → Q (.ref s.heap.objs.size) { s with heap := h' }) :
    wpAny (model prog w) A (call (.type "list") [.ref q]) Q E s := by
  refine callType_codes (Q₁ := fun obj s₁ => obj = .ref s.heap.objs.size ∧ s₁ = { s with heap := s.heap.push { cls := .type "list", data := .seq #[] } }) PySem.F.called_list (PySem.F.typeCall_list_1 _) PySem.F.entry_list_init (code_list_new _ ⟨rfl, rfl⟩) fun obj s₁ g => ?_
  obtain ⟨rfl, rfl⟩ := g
  have r0 : (s.heap.push { cls := .type "list", data := .seq #[] }).get? s.heap.objs.size = some { cls := .type "list", data := .seq #[] } := Heap.get?_push_size _ rfl
  have lt : ∀ {d o}, s.heap.get? d = some o → s.heap.objs.size ≠ d := fun e => Nat.ne_of_gt (Heap.lt_size e)
  have ne : s.heap.objs.size ≠ q ∧ s.heap.objs.size ≠ TI ∧ s.heap.objs.size ≠ TO ∧ s.heap.objs.size ≠ u1 ∧ s.heap.objs.size ≠ u2 ∧ s.heap.objs.size ≠ t1 ∧ s.heap.objs.size ≠ t2 := by
    obtain ⟨_, e1, _⟩ := F.g1
    obtain ⟨_, e2, _⟩ := F.g2
    obtain ⟨_, e3, _⟩ := F.m1
    obtain ⟨_, e4, _⟩ := F.m2
    exact ⟨lt F.z, lt F.i, lt F.o, lt e1, lt e2, lt e3, lt e4⟩
  have sz : (s.heap.push { cls := .type "list", data := .seq #[] }).objs.size = s.heap.objs.size + 1 := Heap.size_push ..
  refine ⟨⟨_, r0, rfl⟩, PySem.F.args_list_init_2 _ _, init2 (A := A.in1) (s := { s with heap := s.heap.push { cls := .type "list", data := .seq #[] } }) hh (F.keep (S := s.heap.objs.size) ne fun d o _ e => Heap.get?_push_of_some _ e) ne r0 fun h' c T0 T1 j1 j2 j3 j4 j5 j6 j7 j8 j9 => ⟨rfl, ?_⟩⟩
  exact hQ h' c T0 T1 (fun d o d2 d3 d4 d5 e => j1 d o (Nat.ne_of_lt (Heap.lt_size e)) d2 d3 d4 d5 (Heap.get?_push_of_some _ e)) (Nat.lt_of_succ_le (by rw [← Nat.succ_eq_add_one] at sz; rw [← sz]; exact j2)) (Nat.lt_of_succ_le (by rw [← Nat.succ_eq_add_one] at sz; rw [← sz]; exact j3)) j4 j7 j8 j9
end
end LZ
namespace Z
open L2 PySem PySem.Spec PyProof.Rows
open Evl (Ex ex_l ex_t ex_rd fresh_back)
section
variable {X : Cx} {pins : List (Addr × Obj)} {σ : L2.St} {H : Hp} {s : Shared} {h' : Heap}
/-- two pairs and a list of them, laid at once -/
def lay3 (H : Hp) (S T0 T1 : Addr) (x0 y0 x1 y1 : V) : Hp := upd (upd (upd H T0 (.tup [x0, y0])) T1 (.tup [x1, y1])) S (.lst [.ref T0, .ref T1])
theorem inv_lay3 {tk : Nat} {c : Nat} {S T0 T1 : Addr} {x0 y0 x1 y1 : V} {u0 v0 u1 v1 : Value} (I : Inv X pins σ H s) (hk : ∀ d o, s.heap.get? d = some o → h'.get? d = some o) (bS : s.heap.objs.size ≤ S) (b0 : s.heap.objs.size ≤ T0) (b1 : s.heap.objs.size ≤ T1) (n01 : T0 ≠ T1) (n0 : T0 ≠ S) (n1 : T1 ≠ S)
    (r1 : RelV x0 u0) (r2 : RelV y0 v0) (r3 : RelV x1 u1) (r4 : RelV y1 v1) (p0 : IsPair h' T0 u0 v0) (p1 : IsPair h' T1 u1 v1) (l : h'.get? S = some { cls := .type "list", dict := none, data := .seq #[.ref T0, .ref T1] c, slots := #[] }) :
    Inv X pins σ (lay3 H S T0 T1 x0 y0 x1 y1) { s with heap := h', toks := tk } := by
  have z0 : H T0 = none := I.hok.fresh b0
  have z1 : H T1 = none := I.hok.fresh b1
  have zS : H S = none := I.hok.fresh bS
  have off : ∀ d, d ≠ T0 → d ≠ T1 → d ≠ S → lay3 H S T0 T1 x0 y0 x1 y1 d = H d := fun d e0 e1 eS => by unfold lay3; rw [upd_ne eS, upd_ne e1, upd_ne e0]
  have at0 : lay3 H S T0 T1 x0 y0 x1 y1 T0 = some (.tup [x0, y0]) := by unfold lay3; rw [upd_ne n0, upd_ne n01, upd_same]
  have at1 : lay3 H S T0 T1 x0 y0 x1 y1 T1 = some (.tup [x1, y1]) := by unfold lay3; rw [upd_ne n1, upd_same]
  have atS : lay3 H S T0 T1 x0 y0 x1 y1 S = some (.lst [.ref T0, .ref T1]) := by unfold lay3; rw [upd_same]
  have low : ∀ d o, s.heap.get? d = some o → d ≠ T0 ∧ d ≠ T1 ∧ d ≠ S := fun d o e => ⟨Nat.ne_of_lt (Nat.lt_of_lt_of_le (Heap.lt_size e) b0), Nat.ne_of_lt (Nat.lt_of_lt_of_le (Heap.lt_size e) b1), Nat.ne_of_lt (Nat.lt_of_lt_of_le (Heap.lt_size e) bS)⟩
  have kp : ∀ d u, H d = some u → lay3 H S T0 T1 x0 y0 x1 y1 d = some u := fun d u e => by
    rw [off d (fun z => by rw [z, z0] at e; cases e) (fun z => by rw [z, z1] at e; cases e) (fun z => by rw [z, zS] at e; cases e)]
    exact e
  refine I.call' (ch := []) rfl ⟨fun d o g _ _ _ => hk d o g, fun d o g _ _ _ => ⟨o.slots, hk d o g⟩, fun d o g n _ => ?_, fun d o g _ => ⟨o, hk d o g⟩, fun d xs g => kp d _ g, fun d o u g => kp d _ g, fun d ps g => ⟨#[], by rw [kp d _ g]; simp⟩⟩ (fun d u g => ?_) I.bare fun d z => by simp at z
  · obtain ⟨w0, w1, wS⟩ := low d o g
    rw [off d w0 w1 wS]
    exact n
  · by_cases d0 : d = T0
    · subst d0
      rw [at0] at g
      cases g
      exact ⟨by show 2 ≤ sizeLine; decide, [u0, v0], .cons r1 (.cons r2 .nil), ⟨_, p0, rfl, _, rfl⟩⟩
    · by_cases d1 : d = T1
      · subst d1
        rw [at1] at g
        cases g
        exact ⟨by show 2 ≤ sizeLine; decide, [u1, v1], .cons r3 (.cons r4 .nil), ⟨_, p1, rfl, _, rfl⟩⟩
      · by_cases dS : d = S
        · subst dS
          rw [atS] at g
          cases g
          exact ⟨by show 2 ≤ sizeLine; decide, [.ref T0, .ref T1], c, .cons rfl (.cons rfl .nil), l⟩
        · rw [off d d0 d1 dS] at g
          exact (I.hok d u g).stay (fun e v _ y => hk e v y) (fun e y => kp e _ y) fun e xs y => kp e _ y
/-- list(zip(e, e2)), pairs both -/
def rLZ (K : Fg) : List V → Hp → VK → Prop := fun vs H1 Q => ∃ p1 p2 x0 x1 y0 y1, vs = [.ref p1, .ref p2] ∧ SqT K H1 p1 [x0, x1] ∧ SqT K H1 p2 [y0, y1] ∧
  ∀ S T0 T1, H1 S = none → H1 T0 = none → H1 T1 = none → T0 ≠ T1 → T0 ≠ S → T1 ≠ S → Q (.ref S) (lay3 H1 S T0 T1 x0 y0 x1 y1)
def tLZ (K : Fg) (ta : TA) : TE := fun σ H Q => ta σ H fun vs H1 => rLZ K vs H1 Q
variable {e e2 : Expr} {ta : TA} {p p2 pos pos2 : Pos}
theorem pe_listZ (hc : X.calm = true) (hg : Gl X "list") (hm : X.mg "list" = none) (hg2 : Gl X "zip") (hm2 : X.mg "zip" = none) (ha : PA X [e, e2] ta)
    (hs : starEach [e, e2] X.env = (false, eval e X.env) :: starEach [e2] X.env := by rfl) (hpl : (backTo pos2 (starEach [e2] X.env)).any (·.1) = false := by rfl)
    (na : starEach [.Call (.Name "zip" p2) [e, e2] [] pos2] X.env = (false, eval (.Call (.Name "zip" p2) [e, e2] [] pos2) X.env) :: starEach [] X.env := by rfl) :
    PE X (.Call (.Name "list" p) [.Call (.Name "zip" p2) [e, e2] [] pos2] [] pos) (tLZ X.K ta) := by
  refine ⟨fun pins s σ H Q I h => ?_⟩
  refine Call_ (ld_blt I hg hm boot_list (PyProof.Rows.callWith_type1 (args_cons (Call_ (ld_blt I hg2 hm2 PyProof.Rows.boot_zip (PyProof.Rows.callWith_type1 (thn (ha.run pos2 pins s σ H _ I h) fun us s1 ⟨vs, H1, I1, r1, q1⟩ => ?_) hs hpl))) na) na))
  obtain ⟨a, b, x0, x1, y0, y1, ex, hqx, hqy, q⟩ := q1
  subst ex
  cases r1 with
  | cons r rr =>
    cases rr with
    | cons r' rr =>
      cases rr
      cases r
      cases r'
      obtain ⟨its, rv, m1, _⟩ := I1.tuple hqx
      obtain ⟨its2, rv2, m2, _⟩ := I1.tuple hqy
      obtain ⟨u0, u1, rfl, ru0, ru1⟩ := vals2 rv
      obtain ⟨v0, v1, rfl, rv0, rv1⟩ := vals2 rv2
      obtain ⟨o1, ho1, _⟩ := id m1
      obtain ⟨o2, ho2, _⟩ := id m2
      refine RZ.call_zipT (show s1.heap.IsTuple a #[u0, u1] from m1) (show s1.heap.IsTuple b #[v0, v1] from m2) fun h1 hz hTI hTO g1 g2 hsz hk => args_nil ?_
      have ap := PySem.W.ktu_apart s1.heap.objs.size a b (Heap.lt_size ho1) (Heap.lt_size ho2)
      have F : LZ.Fresh h1 (s1.heap.objs.size + 4) (s1.heap.objs.size + 2) (s1.heap.objs.size + 3) s1.heap.objs.size (s1.heap.objs.size + 1) a b u0 u1 v0 v1 .none .none := ⟨ap, hz, hTI, hTO, g1, g2, Heap.IsTuple.at (show s1.heap.IsTuple a #[u0, u1] from m1) fun o y => hk _ o y, Heap.IsTuple.at (show s1.heap.IsTuple b #[v0, v1] from m2) fun o y => hk _ o y⟩
      refine LZ.call2 (s := { s1 with heap := h1 }) (I1.ok.hd hc) F fun h2 c T0 T1 k1 k2 k3 k4 k5 k6 k7 => ?_
      dsimp only at k1 k2 k3 k7 ⊢
      have up : ∀ d o, s1.heap.get? d = some o → h2.get? d = some o := fun d o y => by
        have hd := Heap.lt_size y
        exact k1 d o (Nat.ne_of_lt (Nat.lt_of_lt_of_le hd (Nat.le_add_right _ _))) (Nat.ne_of_lt (Nat.lt_of_lt_of_le hd (Nat.le_add_right _ _))) (Nat.ne_of_lt hd) (Nat.ne_of_lt (Nat.lt_of_lt_of_le hd (Nat.le_add_right _ _))) (hk d o y)
      have bS : s1.heap.objs.size ≤ h1.objs.size := by rw [hsz]; exact Nat.le_add_right _ _
      have b0 := Nat.le_trans bS (Nat.le_of_lt k2)
      have b1 := Nat.le_trans bS (Nat.le_of_lt k3)
      refine ⟨.ref h1.objs.size, _, inv_lay3 (tk := s1.toks) I1 up bS b0 b1 k4 (Nat.ne_of_gt k2) (Nat.ne_of_gt k3) ru0 rv0 ru1 rv1 k5 k6 k7, rfl, q _ T0 T1 (I1.hok.fresh bS) (I1.hok.fresh b0) (I1.hok.fresh b1) k4 (Nat.ne_of_gt k2) (Nat.ne_of_gt k3)⟩
def cLZ : CF := fun rs post => match rs with
  | [.val (.tuple [d0, d1]), .val (.tuple [e0, e1])] => post (.list [.tuple [d0, e0], .tuple [d1, e1]])
  | _ => False
theorem ok_LZ {K : Fg} : CallOk K (rLZ K) cLZ := fun F H a fu vs rs post Q e t hf k => by
  unfold cLZ at hf
  split at hf
  · rename_i d0 d1 e0 e1
    cases t with
    | cons r t =>
      cases t with
      | cons r' t =>
        cases t
        replace r : Rp K F _ (.tuple [d0, d1]) := r
        replace r' : Rp K F _ (.tuple [e0, e1]) := r'
        cases r with
        | tup sq m =>
          cases r' with
          | tup sq' m' =>
            cases m with
            | cons a0 m =>
              cases m with
              | cons a1 m =>
                cases m
                cases m' with
                | cons b0 m' =>
                  cases m' with
                  | cons b1 m' =>
                    cases m'
                    rename_i w3 w2 w1 w0
                    refine ⟨_, _, _, _, _, _, rfl, ex_t e sq, ex_t e sq', fun S T0 T1 hS h0 h1 n01 n0 n1 => ?_⟩
                    have g1 := Gr.new (o := .tup [w3, w1]) e h0
                    have g2 := Gr.new (o := .tup [w2, w0]) (p := T1) g1.s (by rw [upd_ne (Ne.symm n01)]; exact h1)
                    have g3 := Gr.new (o := .lst [.ref T0, .ref T1]) (p := S) g2.s (by rw [upd_ne (Ne.symm n1), upd_ne (Ne.symm n0)]; exact hS)
                    have gr := (g1.trans g2).trans g3
                    refine k _ _ _ _ hf gr (.lst upd_same (.cons (.tup (.inl (.inl ?_)) (.cons (a0.mono gr.f _ _) (.cons (b0.mono gr.f _ _) .nil))) (.cons (.tup (.inl (.inl ?_)) (.cons (a1.mono gr.f _ _) (.cons (b1.mono gr.f _ _) .nil))) .nil)))
                    · rw [upd_ne n0, upd_ne n01, upd_same]
                    · rw [upd_ne n1, upd_same]
  · exact hf.elim
theorem e_listZ {tr : DA} (hc : X.calm = true) (hg : Gl X "list") (hm : X.mg "list" = none) (hg2 : Gl X "zip") (hm2 : X.mg "zip" = none) (ha : PA X [e, e2] (upA X.K tr))
    (hs : starEach [e, e2] X.env = (false, eval e X.env) :: starEach [e2] X.env := by rfl) (hpl : (backTo pos2 (starEach [e2] X.env)).any (·.1) = false := by rfl)
    (na : starEach [.Call (.Name "zip" p2) [e, e2] [] pos2] X.env = (false, eval (.Call (.Name "zip" p2) [e, e2] [] pos2) X.env) :: starEach [] X.env := by rfl) :
    PE X (.Call (.Name "list" p) [.Call (.Name "zip" p2) [e, e2] [] pos2] [] pos) (up X.K (dCB cLZ tr)) := pe_to (pe_listZ hc hg hm hg2 hm2 ha hs hpl na) (cb_core ok_LZ)
end
end Z
namespace Z
open L2 PySem PySem.Spec PyProof.Rows
open Evl (Ex ex_l ex_t ex_rd fresh_back)
instance : DecidableEq Th := fun a b => decidable_of_iff (a.n = b.n ∧ a.d = b.d ∧ a.up = b.up) ⟨fun h => by cases a; cases b; simp_all, fun h => by subst h; exact ⟨rfl, rfl, rfl⟩⟩
def Bef (t u : Th) : Prop := t.n * u.d < u.n * t.d ∨ (t.n * u.d = u.n * t.d ∧ t.up = true ∧ u.up = false)
instance (t u : Th) : Decidable (Bef t u) := by unfold Bef; infer_instance
def zoT (l h : Th) : Da := .tuple [num l.n l.d, num h.n h.d, .bool l.up, .bool (!h.up)]
def zoD (t u : Th) : Da := if t = u then .none else if Bef t u then zoT t u else zoT u t
def znD (w : Int) (T U : Bool → Th) : Da := .tuple [if w = 1 then .none else zoD (T false) (U false), zoD (T true) (U true)]
theorem eqv_th (t u : Th) : (thD t).eqv (thD u) = decide (t = u) := by
  unfold thD
  simp only [PyData.eqv, PyData.eqvAll]
  rw [Bool.eq_iff_iff]
  simp only [Bool.and_eq_true, Bool.and_true, decide_eq_true_eq, beq_iff_eq]
  constructor
  · rintro ⟨⟨h1, h2⟩, h3⟩
    have h4 : t.up = u.up := by
      revert h3
      cases t.up <;> cases u.up <;> first | (intro _; rfl) | (intro h; exact absurd h (by decide +kernel))
    cases t
    cases u
    simp_all
  · rintro rfl
    exact ⟨⟨rfl, rfl⟩, rfl⟩
theorem th_eq {t u : Th} (ht : t.Ok) (hu : u.Ok) (gt : Int.gcd t.n t.d = 1) (gu : Int.gcd u.n u.d = 1) (h : t.n * u.d = u.n * t.d) (hs : t.up = u.up) : t = u := by
  have := low_uniq ht.d0 hu.d0 gt gu h
  cases t
  cases u
  simp_all
/-- of two that differ one is first -/
theorem bef_total {t u : Th} (ht : t.Ok) (hu : u.Ok) (gt : Int.gcd t.n t.d = 1) (gu : Int.gcd u.n u.d = 1) (hne : t ≠ u) (h : ¬Bef t u) : Bef u t := by
  unfold Bef at *
  rcases Int.lt_trichotomy (t.n * u.d) (u.n * t.d) with q | q | q
  · exact absurd (.inl q) h
  · refine .inr ⟨q.symm, ?_, ?_⟩
    · cases hu1 : u.up with
      | true => rfl
      | false =>
        cases ht1 : t.up with
        | true => exact absurd (.inr ⟨q, ht1, hu1⟩) h
        | false => exact absurd (th_eq ht hu gt gu q (by rw [ht1, hu1])) hne
    · cases ht1 : t.up with
      | false => rfl
      | true =>
        cases hu1 : u.up with
        | false => exact absurd (.inr ⟨q, ht1, hu1⟩) h
        | true => exact absurd (th_eq ht hu gt gu q (by rw [ht1, hu1])) hne
  · exact .inl q
/-- what is above the later one is above the first -/
theorem bef_abv {l h : Th} (hl : l.Ok) (hh : h.Ok) (b : Bef l h) {x y : Int} (hy : 0 < y) (a : Abv x y h) : Abv x y l := by
  have dl := hl.d0
  have dh := hh.d0
  unfold Abv Bef at *
  have key : l.n * y * h.d ≤ h.n * y * l.d := by
    have : l.n * h.d ≤ h.n * l.d := by rcases b with q | ⟨q, _⟩ <;> omega
    have := Int.mul_le_mul_of_nonneg_right this (Int.le_of_lt hy)
    grind
  rcases a with q | ⟨q1, q2⟩
  · refine .inl (Int.lt_of_mul_lt_mul_right (a := h.d) ?_ (Int.le_of_lt dh))
    have := Int.mul_lt_mul_of_pos_right q dl
    grind
  · rcases b with b | ⟨b1, b2, b3⟩
    · refine .inl (Int.lt_of_mul_lt_mul_right (a := h.d) ?_ (Int.le_of_lt dh))
      have h1 := Int.mul_lt_mul_of_pos_right b hy
      have h2 : h.n * y * l.d = x * h.d * l.d := by rw [q1]
      grind
    · rw [b3] at q2
      cases q2
def lohi (t u : Th) : Th × Th := if Bef t u then (t, u) else (u, t)
theorem zoD_lohi {t u : Th} (hne : t ≠ u) : zoD t u = zoT (lohi t u).1 (lohi t u).2 := by
  unfold zoD lohi
  rw [if_neg hne]
  split <;> rfl
/-- in the zone: just where the two part -/
theorem zone_iff {t u : Th} (ht : t.Ok) (hu : u.Ok) (gt : Int.gcd t.n t.d = 1) (gu : Int.gcd u.n u.d = 1) (hne : t ≠ u) {x y : Int} (hy : 0 < y) :
    (Abv x y (lohi t u).1 ∧ ¬Abv x y (lohi t u).2) ↔ ¬(Abv x y t ↔ Abv x y u) := by
  unfold lohi
  by_cases b : Bef t u
  · rw [if_pos b]
    have := bef_abv ht hu b hy (x := x)
    constructor
    · rintro ⟨a1, a2⟩ h
      exact a2 (h.mp a1)
    · intro h
      by_cases a2 : Abv x y u
      · exact absurd ⟨fun _ => a2, fun _ => this a2⟩ h
      · refine ⟨?_, a2⟩
        by_cases a1 : Abv x y t
        · exact a1
        · exact absurd ⟨fun z => absurd z a1, fun z => absurd z a2⟩ h
  · rw [if_neg b]
    have := bef_abv hu ht (bef_total ht hu gt gu hne b) hy (x := x)
    constructor
    · rintro ⟨a1, a2⟩ h
      exact a2 (h.mpr a1)
    · intro h
      by_cases a2 : Abv x y t
      · exact absurd ⟨fun _ => this a2, fun _ => a2⟩ h
      · refine ⟨?_, a2⟩
        by_cases a1 : Abv x y u
        · exact a1
        · exact absurd ⟨fun z => absurd z a2, fun z => absurd z a1⟩ h
theorem nabv {x y : Int} {t : Th} : (¬Abv x y t) ↔ (x * t.d < t.n * y ∨ (x * t.d = t.n * y ∧ t.up = false)) := by
  unfold Abv
  cases t.up <;> simp <;> omega
theorem sh_zo {t u : Th} (h1 : Bn 200 t.n) (h2 : Bn 200 t.d) (h3 : Bn 200 u.n) (h4 : Bn 200 u.d) : (zoD t u).canLay0 = true ∧ (zoD t u).showable = true ∧ (zoD t u).depth ≤ 2 ∧ szD (zoD t u) ≤ 8000 := by
  have k : ∀ l h : Th, Bn 200 l.n → Bn 200 l.d → Bn 200 h.n → Bn 200 h.d → (zoT l h).canLay0 = true ∧ (zoT l h).showable = true ∧ (zoT l h).depth ≤ 2 ∧ szD (zoT l h) ≤ 8000 := fun l h a b c d => by
    have s1 := showI (a.mono (show 200 ≤ 1900 by decide))
    have s2 := showI (b.mono (show 200 ≤ 1900 by decide))
    have s3 := showI (c.mono (show 200 ≤ 1900 by decide))
    have s4 := showI (d.mono (show 200 ≤ 1900 by decide))
    refine ⟨rfl, ?_, by show 2 ≤ 2; decide, by show (1921 + 2 + (1921 + 2 + 0) + 3) + 2 + ((1921 + 2 + (1921 + 2 + 0) + 3) + 2 + (5 + 2 + (5 + 2 + 0))) + 3 ≤ 8000; decide⟩
    unfold zoT
    simp [PyData.showable, PyData.showableAll, s1, s2, s3, s4]
  unfold zoD
  split
  · exact ⟨rfl, rfl, by show 0 ≤ 2; decide, by show 4 ≤ 8000; decide⟩
  · split
    · exact k t u h1 h2 h3 h4
    · exact k u t h3 h4 h1 h2
theorem sh_zn {w : Int} {T U : Bool → Th} (hT : ThB 101 T) (hU : ThB 101 U) : Sh (znD w T U) ∧ Cps (znD w T U).shown := by
  have b : ∀ (V : Bool → Th), ThB 101 V → ∀ c, Bn 200 (V c).n ∧ Bn 200 (V c).d := fun V hV c => ⟨(hV.bn c).1.mono (by decide), (hV.bn c).2.mono (by decide)⟩
  obtain ⟨a1, a2, a3, a4⟩ := sh_zo (b T hT true).1 (b T hT true).2 (b U hU true).1 (b U hU true).2
  obtain ⟨c1, c2, c3, c4⟩ : (if w = 1 then PyData.none else zoD (T false) (U false)).canLay0 = true ∧ (if w = 1 then PyData.none else zoD (T false) (U false)).showable = true ∧ (if w = 1 then PyData.none else zoD (T false) (U false)).depth ≤ 2 ∧ szD (if w = 1 then PyData.none else zoD (T false) (U false)) ≤ 8000 := by
    split
    · exact ⟨rfl, rfl, by show 0 ≤ 2; decide, by show 4 ≤ 8000; decide⟩
    · exact sh_zo (b T hT false).1 (b T hT false).2 (b U hU false).1 (b U hU false).2
  have cl : (znD w T U).canLay0 = true := by unfold znD; simp [PyData.canLay0, PyData.canLayAll0, a1, c1]
  refine ⟨⟨cl, by unfold znD; simp [PyData.showable, PyData.showableAll, a2, c2], ?_, ?_⟩, cps_shown _ cl⟩
  · unfold znD
    simp only [PyData.depth, PyData.depthAll]
    omega
  · unfold znD
    simp only [szD, szAll]
    omega
end Z
namespace LZ
open L2 PySem PySem.Spec PyProof.Rows
theorem enum_new1 {v : Value} {ob : Obj} {Hv : Heap → Prop} (B : Begins v ob Hv) :
    Meets (Builtin.«enumerate.__new__» ⟨[.type "enumerate", v], []⟩) (fun _ R s => Hv s.heap ∧
      R (.ok (.ret (.ref (s.heap.push ob).objs.size))) { s with heap := (s.heap.push ob).push { cls := .type "enumerate", data := .fields #[.none, .bool false, .ref s.heap.objs.size, rawInt 0, .none, .none] } }) := by
  refine .of_wp fun prog w A R s ⟨hv, h⟩ => ?_
  obtain ⟨hp, g, d, tk, os⟩ := s
  have hsub := sub_enumerate
  have go : ∀ {A' : Around} {E' : Value → Shared → Prop} {Q' : Value → Shared → Prop}, Q' (.ref hp.objs.size) ⟨hp.push ob, g, d, tk, os⟩ → wpAny (model prog w) A' (pyIter v) Q' E' ⟨hp, g, d, tk, os⟩ :=
    fun q => B.iter prog w _ _ ⟨hp, g, d, tk, os⟩ _ hv q
  wp_walk using go
  refine wpAny_stack_any fun st => wpAny_pure ?_
  split
  · rename_i c _ _ _ _ _
    cases (c == Value.type "enumerate") <;> (wp_walk using go; exact ⟨_, rfl, h⟩)
  · wp_walk using go
    exact ⟨_, rfl, h⟩
section
variable {prog : Program} {w : World} {A : Around} {E : Value → Shared → Prop} {s : Shared}
theorem call_enumB {v : Value} {ob : Obj} {Hv : Heap → Prop} {Q : Value → Shared → Prop} (B : Begins v ob Hv) (hv : Hv s.heap)
    (h : ∀ h', IsEnum h' (s.heap.objs.size + 1) s.heap.objs.size 0 .none → h'.get? s.heap.objs.size = some ob → (∀ b o, s.heap.get? b = some o → h'.get? b = some o) → Q (.ref (s.heap.objs.size + 1)) { s with heap := h' }) :
    wpAny (model prog w) A (call (.type "enumerate") [v]) Q E s := by
  refine callType_new F.called_enumerate (by decide) (F.typeCall_enumerate_1 _) (F.newCall_enumerate_1 _) (fun obj => F.args_object_init_2 obj _) F.entry_enumerate_new (enum_new1 B) ⟨hv, ?_⟩
  have z1 : (s.heap.push ob).objs.size = s.heap.objs.size + 1 := Heap.size_push ..
  show _ ∧ _
  rw [z1]
  have en := Heap.get?_push_size (s.heap.push ob) (o := { cls := .type "enumerate", data := .fields #[.none, .bool false, .ref s.heap.objs.size, rawInt 0, .none, .none] }) rfl
  rw [z1] at en
  exact ⟨⟨_, en, rfl⟩, h _ en (Heap.get?_push_of_some _ (Heap.get?_push_size _ B.free)) fun b o x => Heap.get?_push_of_some _ (Heap.get?_push_of_some _ x)⟩
end
def ItEn (K : PySem.W.Frag) (a : Addr) : It :=
  ⟨fun i H => ∃ (xs : List V) (x : V), SqT K H a xs ∧ xs[i]? = some x, fun i H v H' => ∃ T x, v = .ref T ∧ H T = none ∧ H' = upd H T (.tup [.int (i : Nat), x]) ∧ ∀ xs, SqT K H a xs → xs[i]? = some x, fun i H => ∃ xs : List V, SqT K H a xs ∧ xs.length = i⟩
theorem turn_en {P : Program} {w : World} {K : PySem.W.Frag} {elts : List Expr} {kk : Nat} {tpos : Pos} (a e it : Addr) (hae : a ≠ e) (hai : a ≠ it) :
    Turn P w K (.Tuple elts kk tpos) (ItEn K a) [e, it] e (fun i h => (∃ old, IsEnum h e it ((i : Nat) : Int) old) ∧ h.IsTupleIter it a i ∧ e ≠ it) where
  mem := List.mem_cons_self ..
  obj := fun i h st b hb => by
    obtain ⟨⟨old, he⟩, ⟨o, ho, hc, hd⟩, _⟩ := st
    rcases List.mem_cons.mp hb with rfl | hb
    · exact ⟨_, he, fun v q => nomatch q⟩
    · rw [List.mem_singleton.mp hb]
      exact ⟨o, ho, fun v q => by rw [hd] at q; cases q⟩
  keep := fun i h h' st k => ⟨st.1.imp fun old he => k e (List.mem_cons_self ..) _ he, st.2.1.at fun o q => k it (List.mem_cons_of_mem _ (List.mem_singleton.mpr rfl)) o q, st.2.2⟩
  item := by
    intro X hP hw hK hc i pins s σ H E I hf st hg
    subst hP hw hK
    obtain ⟨⟨old, he⟩, hit, hne⟩ := st
    obtain ⟨xs, x, hq, hx⟩ := hg
    obtain ⟨its, rv, p, hz⟩ := I.tuple hq
    obtain ⟨u, hu, ru⟩ := rv.get hx
    have hel : e < s.heap.objs.size := Heap.lt_size he
    have hil : it < s.heap.objs.size := by obtain ⟨_, q, _⟩ := hit; exact Heap.lt_size q
    have D := Draws.tuple (prog := X.prog) (w := X.w) (A := X.A.in1) (I.ok.hd hc) it a hai its.toArray
    have hlt : i < its.toArray.size := by
      have := (List.getElem?_eq_some_iff.mp hu).1
      simpa using this
    refine wpAny_pyNext_enum_itemD D he ⟨hit, p⟩ hlt hne (by simp [hne, Ne.symm hae]) fun y h' tk hy ho hst hT hsz hk => ?_
    obtain rfl : u = y := by
      have e1 : its.toArray[i]? = some u := by simpa using hu
      rw [e1] at hy
      exact Option.some.inj hy
    refine ⟨_, rfl, wpAny_letOwnedTupleGo_enum (s := { s with heap := h', toks := tk + 1 }) ho fun h'' he' sb => ?_⟩
    have hT2 := (sb.2 _ (Nat.ne_of_gt hel)).trans hT
    have new : ObjOk X.prog X.w (upd H s.heap.objs.size (.tup [.int (i : Nat), x])) h'' s.heap.objs.size (.tup [.int (i : Nat), x]) :=
      ⟨by show 2 ≤ sizeLine; decide, [.int i tk, u], .cons ⟨_, rfl⟩ (.cons ru .nil), ⟨_, hT2, rfl, _, rfl⟩⟩
    have I1 : Inv X pins σ (upd H s.heap.objs.size (.tup [.int (i : Nat), x])) { s with heap := h'', toks := tk + 1 } :=
      I.turnedNew (ch := [e, it]) (fun b ob hb q => (sb.2 b (fun z => hb (by simp [z]))).trans (hk b ob (fun z => hb (by simp [z])) (fun z => hb (by simp [z])) q)) hf (Nat.le_refl _) new
    refine ⟨.ref s.heap.objs.size, _, I1, rfl, ⟨_, x, rfl, I.hok.fresh (Nat.le_refl _), rfl, fun ys hy => by rw [I.tuple_inj hy hq]; exact hx⟩, ⟨⟨u, ?_⟩, hst.1.at fun o q => (sb.2 it (Ne.symm hne)).trans q, hne⟩, fun b hb => ?_⟩
    · rw [show ((i + 1 : Nat) : Int) = (i : Int) + 1 by omega]
      exact he'
    · have hb' : b < s.heap.objs.size := by
        rcases List.mem_cons.mp hb with rfl | hb
        · exact hel
        · rw [List.mem_singleton.mp hb]
          exact hil
      rw [upd_ne (Nat.ne_of_lt hb')]
      exact (hf b hb).1
  done := by
    intro X hP hw hK hc i pins s σ H E I hf st hg
    subst hP hw hK
    obtain ⟨⟨old, he⟩, hit, hne⟩ := st
    obtain ⟨xs, hq, hx⟩ := hg
    obtain ⟨its, rv, p, hz⟩ := I.tuple hq
    obtain ⟨f0, f1, f2, f3, f4, f5⟩ := hf it (by simp)
    have hl := rv.length
    have D := Draws.tuple (prog := X.prog) (w := X.w) (A := X.A.in1) (I.ok.hd hc) it a hai its.toArray
    have hn : i = its.toArray.size := by simp; omega
    subst hn
    exact wpAny_pyNext_enum_endD D he ⟨hit, p⟩ fun h' eb => ⟨rfl, I.turned (t' := s.toks) (fun b o hb q => eb b o hb q) f0 f1 f3 f4 f5⟩
  self := fun A i s Q E st h => by
    obtain ⟨⟨_, he⟩, _⟩ := st
    exact wpAny_pyIter_enum he h
def iEn (K : PySem.W.Frag) (ta : TA) : TI := fun σ H R => ta σ H fun vs H1 => ∃ a xs, vs = [.ref a] ∧ ((SqL K H1 a xs ∧ R (Ite K a) H1) ∨ (SqT K H1 a xs ∧ R (ItEn K a) H1))
theorem pi_en {X : Cx} {e : Expr} {ta : TA} {p pos tpos : Pos} {elts : List Expr} {kk : Nat} (hg : Gl X "enumerate") (hm : X.mg "enumerate" = none) (ha : PA X [e] ta) (hs : starEach [e] X.env = (false, eval e X.env) :: starEach [] X.env := by rfl) :
    PI X (.Tuple elts kk tpos) (.Call (.Name "enumerate" p) [e] [] pos) (iEn X.K ta) := by
  refine ⟨fun pins s σ H R I h => ?_⟩
  refine Call_ (ld_blt I hg hm boot_enumerate (PyProof.Rows.callWith_type1 (thn (ha.run pos pins s σ H _ I h) fun us s1 ⟨vs, H1, I1, r1, q1⟩ => ?_) hs rfl))
  obtain ⟨a, xs, rfl, q1⟩ := q1
  cases r1 with
  | cons r rr =>
    cases rr
    cases r
    have fp : ∀ b ∈ [s1.heap.objs.size + 1, s1.heap.objs.size], FpOk X pins H1 b := fun b hb => by
      have hle : s1.heap.objs.size ≤ b := by
        rcases List.mem_cons.mp hb with rfl | hb
        · exact Nat.le_add_right _ _
        · rw [List.mem_singleton.mp hb]
          exact Nat.le_refl _
      exact I1.fpOk hle (I1.hok.fresh hle)
    rcases q1 with ⟨hq, q⟩ | ⟨hq, q⟩
    · obtain ⟨its, rv, p', hz⟩ := I1.list hq
      refine call_enumB (begins_list a its.toArray) p'.isList fun h' he hit hk => wpAny_pyIter_enum he ?_
      have I2 : Inv X pins σ H1 { s1 with heap := h' } := I1.kept (t' := s1.toks) hk
      exact ⟨s1.heap.objs.size + 1, [s1.heap.objs.size + 1, s1.heap.objs.size], _, _, H1, rfl, I2, turn_enum a (s1.heap.objs.size + 1) s1.heap.objs.size, ⟨⟨.none, he⟩, ⟨_, hit, rfl, rfl⟩, Nat.succ_ne_self _⟩, fp, q⟩
    · obtain ⟨its, rv, p', hz⟩ := I1.tuple hq
      have pl : a < s1.heap.objs.size := by obtain ⟨_, q, _⟩ := id p'; exact Heap.lt_size q
      refine call_enumB (begins_tuple a its.toArray) p' fun h' he hit hk => wpAny_pyIter_enum he ?_
      have I2 : Inv X pins σ H1 { s1 with heap := h' } := I1.kept (t' := s1.toks) hk
      exact ⟨s1.heap.objs.size + 1, [s1.heap.objs.size + 1, s1.heap.objs.size], _, _, H1, rfl, I2, turn_en a (s1.heap.objs.size + 1) s1.heap.objs.size (Nat.ne_of_lt (Nat.lt_succ_of_lt pl)) (Nat.ne_of_lt pl), ⟨⟨.none, he⟩, ⟨_, hit, rfl, rfl⟩, Nat.succ_ne_self _⟩, fp, q⟩
end LZ
namespace Z
open L2 PySem PySem.Spec PyProof.Rows
open Evl (Ex ex_l ex_t ex_rd fresh_back)
def enD : Int → List Da → List Da
  | _, [] => []
  | i, x :: xs => .tuple [.int i, x] :: enD (i + 1) xs
theorem enD_len : ∀ {xs : List Da} {k : Int}, (enD k xs).length = xs.length
  | [], _ => rfl
  | x :: xs, k => by
    show (enD (k + 1) xs).length + 1 = xs.length + 1
    rw [enD_len]
theorem enD_get : ∀ {xs : List Da} {k : Int} {i : Nat} {x : Da}, xs[i]? = some x → (enD k xs)[i]? = some (.tuple [.int (k + (i : Nat)), x])
  | [], _, _, _, h => by simp at h
  | y :: xs, k, 0, x, h => by
    simp at h
    subst h
    show some (PyData.tuple [.int k, y]) = _
    rw [show k + ((0 : Nat) : Int) = k by omega]
  | y :: xs, k, i + 1, x, h => by
    have e := enD_get (k := k + 1) (show xs[i]? = some x by simpa using h)
    show (enD (k + 1) xs)[i]? = _
    rw [e, show k + 1 + (i : Int) = k + ((i + 1 : Nat) : Int) by omega]
def dEnum (te : DE) : DW := fun g Q => te g fun r g1 => match r with
  | .val (.list ds) => Q (enD 0 ds) g1
  | .val (.tuple ds) => Q (enD 0 ds) g1
  | _ => False
section
variable {K : Fg}
theorem walkD_enT {p : Addr} {ds : List Da} : WalkD K (LZ.ItEn K p) (enD 0 ds) [.ref p] [.val (.tuple ds)] := by
  have get : ∀ {F H : Hp} {a : Addr} {fu : Option Nat}, Ex F H → Tm K F a fu [.ref p] [.val (.tuple ds)] → ∃ xs, SqT K H p xs ∧ Rps K F xs ds := fun {F H a fu} e t => by
    obtain ⟨v, e1, h2⟩ := t.v1
    cases e1
    cases h2 with
    | tup sq m => exact ⟨_, ex_t e sq, m⟩
  refine ⟨fun i F H a fu e t hi => ?_, fun F H a fu e t => ?_, fun i F H a fu x H' e t hi y => ?_⟩
  · obtain ⟨xs, s1, m1⟩ := get e t
    rw [enD_len] at hi
    obtain ⟨v, h1, _⟩ := m1.get (List.getElem?_eq_getElem (show i < ds.length by omega))
    exact ⟨xs, v, s1, h1⟩
  · obtain ⟨xs, s1, m1⟩ := get e t
    refine ⟨xs, s1, ?_⟩
    rw [enD_len, m1.len]
  · obtain ⟨xs, s1, m1⟩ := get e t
    obtain ⟨T, u, rfl, nT, rfl, h1⟩ := y
    rw [enD_len] at hi
    have g1 : ds[i]? = some ds[i] := List.getElem?_eq_getElem (by omega)
    obtain ⟨u', e1, r1⟩ := m1.get g1
    rw [h1 xs s1] at e1
    cases e1
    have gr := Gr.new (o := .tup [.int (i : Nat), u]) e nT
    refine ⟨_, _, enD_get g1, gr, ?_⟩
    rw [Int.zero_add]
    exact .tup (.inl (.inl upd_same)) (.cons (.int _) (.cons (r1.up gr.f) .nil))
theorem walkD_enL {p : Addr} {ds : List Da} : WalkD K (Ite K p) (enD 0 ds) [.ref p] [.val (.list ds)] := by
  have get : ∀ {F H : Hp} {a : Addr} {fu : Option Nat}, Ex F H → Tm K F a fu [.ref p] [.val (.list ds)] → ∃ xs, SqL K H p xs ∧ Rps K F xs ds := fun {F H a fu} e t => by
    obtain ⟨v, e1, h2⟩ := t.v1
    cases e1
    cases h2 with
    | lst sq m => exact ⟨_, .inl (.inl (e _ _ sq)), m⟩
  refine ⟨fun i F H a fu e t hi => ?_, fun F H a fu e t => ?_, fun i F H a fu x H' e t hi y => ?_⟩
  · obtain ⟨xs, s1, m1⟩ := get e t
    rw [enD_len] at hi
    obtain ⟨v, h1, _⟩ := m1.get (List.getElem?_eq_getElem (show i < ds.length by omega))
    exact ⟨xs, v, s1, h1⟩
  · obtain ⟨xs, s1, m1⟩ := get e t
    refine ⟨xs, s1, ?_⟩
    rw [enD_len, m1.len]
    exact Nat.le_refl _
  · obtain ⟨xs, s1, m1⟩ := get e t
    obtain ⟨T, u, rfl, nT, rfl, h1⟩ := y
    rw [enD_len] at hi
    have g1 : ds[i]? = some ds[i] := List.getElem?_eq_getElem (by omega)
    obtain ⟨u', e1, r1⟩ := m1.get g1
    rw [h1 xs s1] at e1
    cases e1
    have gr := Gr.new (o := .tup [.int (i : Nat), u]) e nT
    refine ⟨_, _, enD_get g1, gr, ?_⟩
    rw [Int.zero_add]
    exact .tup (.inl (.inl upd_same)) (.cons (.int _) (.cons (r1.up gr.f) .nil))
end
theorem i_enum {X : Cx} {a : Expr} {ta : DE} {p pos tpos : Pos} {elts : List Expr} {kk : Nat} (hg : Gl X "enumerate") (hm : X.mg "enumerate" = none) (ha : PE X a (up X.K ta)) (hs : starEach [a] X.env = (false, eval a X.env) :: starEach [] X.env := by rfl) :
    PI X (.Tuple elts kk tpos) (.Call (.Name "enumerate" p) [a] [] pos) (upI X.K (dEnum ta)) := pi_to (LZ.pi_en hg hm (pa_cons ha pa_nil hs) hs) fun σ H R q => by
  obtain ⟨c, g, tv, tr, F, a, post, s, t, k⟩ := q
  refine ⟨c, g, tv, tr, F, a, _, s, t, fun r g1 v H1 F1 a1 t1 s1 => ?_⟩
  split at t1
  · rename_i xs
    have hr : Rp X.K F1 v (.list xs) := s1.top
    cases hr with
    | lst q1 m1 => exact ⟨_, _, rfl, .inl ⟨.inl (.inl (s1.eh _ _ q1)), k _ g1 H1 F1 a1 _ [_] [_] t1 s1 rfl rfl walkD_enL⟩⟩
  · rename_i xs
    have hr : Rp X.K F1 v (.tuple xs) := s1.top
    cases hr with
    | tup q1 m1 => exact ⟨_, _, rfl, .inr ⟨ex_t s1.eh q1, k _ g1 H1 F1 a1 _ [_] [_] t1 s1 rfl rfl walkD_enT⟩⟩
  · exact t1.elim
end Z
namespace Z
open L2 PySem PySem.Spec PyProof.Rows
structure ShB (k z : Nat) (d : Da) : Prop where
  lay : d.canLay0 = true
  sh : d.showable = true
  dp : d.depth ≤ k
  sz : szD d ≤ z
theorem ShB.cps {k z : Nat} {d : Da} (h : ShB k z d) : Cps d.shown := cps_shown d h.lay
theorem ShB.shaped {k z : Nat} {d : Da} (h : ShB k z d) (hk : k ≤ 64) : SeqAt.shaped d = true := by
  unfold SeqAt.shaped
  rw [h.lay, Bool.true_and]
  exact decide_eq_true (Nat.le_trans h.dp hk)
theorem ShB.refl {k z : Nat} {d : Da} (h : ShB k z d) : d.eqv d = true := SeqAt.eqv_refl d h.lay
theorem ShB.mono {k z k' z' : Nat} {d : Da} (h : ShB k z d) (hk : k ≤ k') (hz : z ≤ z') : ShB k' z' d := ⟨h.lay, h.sh, Nat.le_trans h.dp hk, Nat.le_trans h.sz hz⟩
theorem ShB.int {i : Int} (h : Bn 1900 i) : ShB 0 1921 (.int i) := ⟨rfl, decide_eq_true (showI h), Nat.le_refl _, Nat.le_refl _⟩
theorem ShB.none : ShB 0 1921 .none := ⟨rfl, rfl, Nat.le_refl _, by show 4 ≤ 1921; decide⟩
theorem ShB.bool (b : Bool) : ShB 0 1921 (.bool b) := ⟨rfl, rfl, Nat.le_refl _, by show 5 ≤ 1921; decide⟩
theorem ShB.str {x : Str} (h : PyData.strOk x = true) (hl : x.length ≤ 100) : ShB 0 1921 (.str x) := ⟨h, rfl, Nat.le_refl _, by show 10 * x.length + 2 ≤ 1921; omega⟩
theorem ShB.all {k z : Nat} : ∀ {ds : List Da}, (∀ d ∈ ds, ShB k z d) → PyData.canLayAll0 ds = true ∧ PyData.showableAll ds = true ∧ PyData.depthAll ds ≤ k ∧ szAll ds ≤ ds.length * (z + 2)
  | [], _ => ⟨rfl, rfl, Nat.zero_le _, Nat.zero_le _⟩
  | d :: ds, h => by
    obtain ⟨i1, i2, i3, i4⟩ := ShB.all (ds := ds) fun e he => h e (List.mem_cons_of_mem _ he)
    have h0 := h d (List.mem_cons_self ..)
    have h1 := h0.dp
    have h2 := h0.sz
    refine ⟨by simp [PyData.canLayAll0, h0.lay, i1], by simp [PyData.showableAll, h0.sh, i2], ?_, ?_⟩
    · simp only [PyData.depthAll]
      omega
    · rw [List.length_cons, Nat.succ_mul]
      simp only [szAll]
      omega
theorem ShB.tup {k z n : Nat} {ds : List Da} (h : ∀ d ∈ ds, ShB k z d) (hn : ds.length ≤ n) : ShB (k + 1) (n * (z + 2) + 3) (.tuple ds) := by
  obtain ⟨i1, i2, i3, i4⟩ := ShB.all h
  have := Nat.mul_le_mul_right (z + 2) hn
  refine ⟨by simpa [PyData.canLay0] using i1, by simpa [PyData.showable] using i2, ?_, ?_⟩
  · simp only [PyData.depth]
    omega
  · simp only [szD]
    omega
theorem ShB.lst {k z n : Nat} {ds : List Da} (h : ∀ d ∈ ds, ShB k z d) (hn : ds.length ≤ n) : ShB (k + 1) (n * (z + 2) + 3) (.list ds) := by
  obtain ⟨i1, i2, i3, i4⟩ := ShB.all h
  have := Nat.mul_le_mul_right (z + 2) hn
  refine ⟨by simpa [PyData.canLay0] using i1, by simpa [PyData.showable] using i2, ?_, ?_⟩
  · simp only [PyData.depth]
    omega
  · simp only [szD]
    omega
theorem ShB.two {k z : Nat} {a b : Da} (ha : ShB k z a) (hb : ShB k z b) : ∀ d ∈ [a, b], ShB k z d := fun d hd => by
  simp only [List.mem_cons, List.not_mem_nil, or_false] at hd
  rcases hd with rfl | rfl
  · exact ha
  · exact hb
theorem ShB.num {n d : Int} (hn : Bn 1900 n) (hd : Bn 1900 d) : ShB 1 4000 (num n d) := (ShB.tup (ShB.two (ShB.int hn) (ShB.int hd)) (n := 2) (Nat.le_refl 2)).mono (by decide) (by decide)
theorem shaped_prD (w : Int) (T : Bool → Th) : SeqAt.shaped (Z.prD w T) = true := by
  have h1 := sd_ok (T true).up
  have h0 := sd_ok (T false).up
  unfold SeqAt.shaped Z.prD thD
  by_cases q : w = 1
  · rw [if_pos q]
    simp [PyData.canLay0, PyData.canLayAll0, h1, PyData.depth, PyData.depthAll]
  · rw [if_neg q]
    simp [PyData.canLay0, PyData.canLayAll0, h1, h0, PyData.depth, PyData.depthAll]
end Z
namespace Z
open L2 PySem PySem.Spec PyProof.Rows
theorem abv_mono {i j p : Int} {t : Th} (hd : 0 < t.d) (h : Abv i p t) (hij : i ≤ j) : Abv j p t := by
  unfold Abv at *
  have k := Int.mul_le_mul_of_nonneg_right hij (Int.le_of_lt hd)
  rcases h with q | ⟨q1, q2⟩
  · exact .inl (Int.lt_of_lt_of_le q k)
  · by_cases e : t.n * p = j * t.d
    · exact .inr ⟨e, q2⟩
    · exact .inl (by omega)
def fpJ (l : Th) (p : Int) : Int := if Abv (l.n * p / l.d) p l then l.n * p / l.d else l.n * p / l.d + 1
def fpI (l h : Th) (p : Int) : Option Int := if Abv (fpJ l p) p h then none else some (fpJ l p)
theorem fpJ_abv {l : Th} {p : Int} (hl : l.Ok) : Abv (fpJ l p) p l := by
  unfold fpJ
  split
  · assumption
  · refine .inl ?_
    have h1 := Int.emod_lt_of_pos (l.n * p) hl.d0
    have h2 := Int.mul_ediv_add_emod (l.n * p) l.d
    rw [Int.add_mul, Int.one_mul, Int.mul_comm (l.n * p / l.d)]
    omega
theorem fpJ_min {l : Th} {p i : Int} (hl : l.Ok) (h : Abv i p l) : fpJ l p ≤ i := by
  have h1 := Int.emod_nonneg (l.n * p) (Int.ne_of_gt hl.d0)
  have h2 := Int.mul_ediv_add_emod (l.n * p) l.d
  have k : l.n * p / l.d ≤ i := by
    have hi : l.n * p ≤ i * l.d := by rcases h with q | ⟨q, _⟩ <;> omega
    refine Int.le_of_mul_le_mul_right (a := l.d) ?_ hl.d0
    rw [Int.mul_comm (l.n * p / l.d)]
    omega
  unfold fpJ
  split
  · exact k
  · rename_i z
    by_cases e : l.n * p / l.d = i
    · rw [e] at z
      exact absurd h z
    · omega
def Dif (T U : Bool → Th) (b : Bool) (i p : Int) : Prop := ¬(Abv i p (T b) ↔ Abv i p (U b))
def zfp (T U : Bool → Th) (b : Bool) (p : Int) : Option Int := if T b = U b then none else fpI (lohi (T b) (U b)).1 (lohi (T b) (U b)).2 p
theorem lohi_ok {t u : Th} (ht : t.Ok) (hu : u.Ok) : (lohi t u).1.Ok ∧ (lohi t u).2.Ok := by
  unfold lohi
  split
  · exact ⟨ht, hu⟩
  · exact ⟨hu, ht⟩
theorem zfp_some {T U : Bool → Th} {b : Bool} {p j : Int} (hT : ThB 101 T) (hU : ThB 101 U) (hp : 0 < p) (h : zfp T U b p = some j) : Dif T U b j p ∧ 0 < j ∧ j < p ∧ ∀ i, Dif T U b i p → j ≤ i := by
  unfold zfp at h
  split at h
  · cases h
  · rename_i ne
    obtain ⟨o1, o2⟩ := lohi_ok (hT.ok b) (hU.ok b)
    have zi := fun x => zone_iff (x := x) (hT.ok b) (hU.ok b) (hT.g b) (hU.g b) ne hp
    unfold fpI at h
    split at h
    · cases h
    · rename_i na
      obtain rfl : fpJ _ p = j := Option.some.inj h
      have a1 := fpJ_abv (p := p) o1
      refine ⟨(zi _).mp ⟨a1, na⟩, ?_, ?_, fun i hi => fpJ_min o1 ((zi i).mpr hi).1⟩
      · rcases Int.lt_or_le 0 (fpJ (lohi (T b) (U b)).1 p) with q | q
        · exact q
        · exact absurd (abv_mono o1.d0 a1 q) (abv_zero o1 hp)
      · rcases Int.lt_or_le (fpJ (lohi (T b) (U b)).1 p) p with q | q
        · exact q
        · exact absurd (abv_mono o2.d0 (abv_one o2 hp) q) na
theorem zfp_none {T U : Bool → Th} {b : Bool} {p : Int} (hT : ThB 101 T) (hU : ThB 101 U) (hp : 0 < p) (h : zfp T U b p = none) (i : Int) : ¬Dif T U b i p := by
  unfold zfp at h
  split at h
  · rename_i e
    unfold Dif
    rw [e]
    simp
  · rename_i ne
    obtain ⟨o1, o2⟩ := lohi_ok (hT.ok b) (hU.ok b)
    unfold fpI at h
    split at h
    · rename_i na
      intro hd
      obtain ⟨a, c⟩ := (zone_iff (hT.ok b) (hU.ok b) (hT.g b) (hU.g b) ne hp).mpr hd
      exact c (abv_mono o2.d0 na (fpJ_min o1 a))
    · cases h
theorem bef_pt {l h : Th} {P : Int} (hl : l.Ok) (hh : h.Ok) (b : Bef l h) (hP : 0 < P) (d1 : l.d ∣ P) (d2 : h.d ∣ P) : ∃ i, Abv i (2 * P) l ∧ ¬Abv i (2 * P) h := by
  obtain ⟨x, hx⟩ := d1
  obtain ⟨y, hy⟩ := d2
  have x0 : 0 < x := by
    rcases Int.lt_or_le 0 x with q | q
    · exact q
    · have := Int.mul_nonpos_of_nonneg_of_nonpos (Int.le_of_lt hl.d0) q
      omega
  have y0 : 0 < y := by
    rcases Int.lt_or_le 0 y with q | q
    · exact q
    · have := Int.mul_nonpos_of_nonneg_of_nonpos (Int.le_of_lt hh.d0) q
      omega
  have e1 : l.n * (2 * P) = 2 * (l.n * x) * l.d := by rw [hx]; grind
  have e2 : h.n * (2 * P) = 2 * (h.n * y) * h.d := by rw [hy]; grind
  have k1 : l.n * h.d * (x * y) = l.n * x * P := by rw [hy]; grind
  have k2 : h.n * l.d * (x * y) = h.n * y * P := by rw [hx]; grind
  rcases b with q | ⟨q, u1, u2⟩
  · have := Int.mul_lt_mul_of_pos_right q (Int.mul_pos x0 y0)
    rw [k1, k2] at this
    have lt : l.n * x < h.n * y := Int.lt_of_mul_lt_mul_right this (Int.le_of_lt hP)
    refine ⟨2 * (l.n * x) + 1, .inl ?_, ?_⟩
    · rw [e1, Int.add_mul, Int.one_mul]
      have := hl.d0
      omega
    · rw [nabv, e2]
      refine .inl (Int.mul_lt_mul_of_pos_right (by omega) hh.d0)
  · have : l.n * h.d * (x * y) = h.n * l.d * (x * y) := by rw [q]
    rw [k1, k2] at this
    have eq : l.n * x = h.n * y := Int.eq_of_mul_eq_mul_right (Int.ne_of_gt hP) this
    refine ⟨2 * (l.n * x), .inr ⟨e1, u1⟩, ?_⟩
    rw [nabv, e2, eq]
    exact .inr ⟨rfl, u2⟩
theorem dif_ex {T U : Bool → Th} {b : Bool} {m : Nat} (hT : ThB 101 T) (hU : ThB 101 U) (dT : ThDv m T) (dU : ThDv m U) (ne : T b ≠ U b) : ∃ i, Dif T U b i (2 ^ (m + 1)) := by
  have P := pow2_pos m
  have zi := fun x => zone_iff (x := x) (y := 2 ^ (m + 1)) (hT.ok b) (hU.ok b) (hT.g b) (hU.g b) ne (pow2_pos _)
  obtain ⟨o1, o2⟩ := lohi_ok (hT.ok b) (hU.ok b)
  have bf : Bef (lohi (T b) (U b)).1 (lohi (T b) (U b)).2 := by
    unfold lohi
    by_cases q : Bef (T b) (U b)
    · rw [if_pos q]
      exact q
    · rw [if_neg q]
      exact bef_total (hT.ok b) (hU.ok b) (hT.g b) (hU.g b) ne q
  have dv : (lohi (T b) (U b)).1.d ∣ 2 ^ m ∧ (lohi (T b) (U b)).2.d ∣ 2 ^ m := by
    unfold lohi
    split
    · exact ⟨dT b, dU b⟩
    · exact ⟨dU b, dT b⟩
  obtain ⟨i, h⟩ := bef_pt o1 o2 bf P dv.1 dv.2
  rw [show (2 : Int) * 2 ^ m = 2 ^ (m + 1) by rw [Int.pow_succ, Int.mul_comm]] at h
  exact ⟨i, (zi i).mp h⟩
/-- the first place where two chains part: a grid of 2 ^ t, the parity of the cell, the index -/
structure SdAt (w : Int) (T U : Bool → Th) (t : Nat) (b : Bool) (j : Int) : Prop where
  b1 : w = 1 → b = true
  dif : Dif T U b j (2 ^ t)
  lo : 0 < j
  hi : j < 2 ^ t
  min : ∀ i, Dif T U b i (2 ^ t) → j ≤ i
  par : b = true → w ≠ 1 → ∀ i, ¬Dif T U false i (2 ^ t)
  pre : ∀ t', t' < t → ∀ b', (w = 1 → b' = true) → ∀ i, ¬Dif T U b' i (2 ^ t')
  tb : t ≤ 101
def sdk (w : Int) (b : Bool) : Int := 2 ^ (w - 1).toNat + (2 ^ (w - 1).toNat + (if b then 1 else 0)) % 2
theorem SdAt.ne {w : Int} {T U : Bool → Th} {t : Nat} {b : Bool} {j : Int} (h : SdAt w T U t b j) : T b ≠ U b := fun e => h.dif (by rw [e])
end Z
namespace Z
open L2 PySem PySem.Spec PyProof.Rows
open Evl (Ex ex_l ex_t ex_rd fresh_back)
end Z
namespace Z
open L2 PySem PySem.Spec PyProof.Rows
instance (T U : Bool → Th) (b : Bool) (x y : Int) : Decidable (Dif T U b x y) := by unfold Dif; infer_instance
/-- x * f / d is a place where the two part -/
def DfX (w : Int) (T U : Bool → Th) (f d x : Int) : Prop := Dif T U (decide ((cellI (x * f) d w).1 % 2 = 1)) (posI (x * f) d w).1 (posI (x * f) d w).2
instance (w : Int) (T U : Bool → Th) (f d x : Int) : Decidable (DfX w T U f d x) := by unfold DfX; infer_instance
end Z
namespace Z
open L2 PySem PySem.Spec PyProof.Rows
theorem dif_symm {T U : Bool → Th} {b : Bool} {x y : Int} : Dif T U b x y ↔ Dif U T b x y := by
  unfold Dif
  exact ⟨fun h q => h q.symm, fun h q => h q.symm⟩
/-- arguments of a search among operands -/
structure LoOk (w : Int) (T U : Bool → Th) (f d p : Int) : Prop where
  w1 : 1 ≤ w
  w2 : w ≤ 100
  T : ThB 101 T
  U : ThB 101 U
  f0 : 0 < f
  bf : Bn 300 f
  d0 : 0 < d
  bd : Bn 300 d
  p1 : 1 ≤ p
  p2 : p ≤ 100
/-- two chains that may be compared -/
structure Two (c c' : List (Int × Ru)) : Prop where
  a : Chn1 c
  b : Chn1 c'
  w : (chT c).1 = (chT c').1
theorem Two.lo {c c' : List (Int × Ru)} {f d p : Int} (h : Two c c') (f0 : 0 < f) (bf : Bn 300 f) (d0 : 0 < d) (bd : Bn 300 d) (p1 : 1 ≤ p) (p2 : p ≤ 100) : LoOk (chT c).1 (chT c).2 (chT c').2 f d p := by
  obtain ⟨hT, w1, w2⟩ := chT_B h.a.ne h.a.w
  obtain ⟨hU, _, _⟩ := chT_B h.b.ne h.b.w
  exact ⟨w1, w2, hT, hU, f0, bf, d0, bd, p1, p2⟩
end Z
namespace Z
open L2 PySem PySem.Spec PyProof.Rows
open Evl (Ex ex_l ex_t ex_rd fresh_back)
/-- chains differ at a product, at a quotient -/
def prP (c c' : List (Int × Ru)) (a b : Int) : Prop := DfX (chT c).1 (chT c).2 (chT c').2 a 1 b
def quP (c c' : List (Int × Ru)) (a b : Int) : Prop := DfX (chT c).1 (chT c).2 (chT c').2 1 b a
instance (c c' : List (Int × Ru)) (a b : Int) : Decidable (prP c c' a b) := by unfold prP; infer_instance
instance (c c' : List (Int × Ru)) (a b : Int) : Decidable (quP c c' a b) := by unfold quP; infer_instance
abbrev hi2 (p : Int) : Int := 2 ^ p.toNat
end Z
namespace Z
open L2 PySem PySem.Spec PyProof.Rows
open Evl (Ex ex_l ex_t ex_rd fresh_back)
end Z
namespace Z
open L2 PySem PySem.Spec PyProof.Rows
end Z
namespace L2
open PySem PySem.Spec PyProof.Rows
end L2
namespace Z
open L2 PySem PySem.Spec PyProof.Rows
open Evl (Ex ex_l ex_t ex_rd fresh_back)
end Z
namespace Z
open L2 PySem PySem.Spec PyProof.Rows
open Evl (Ex ex_l ex_t ex_rd fresh_back)
end Z
namespace Z
open L2 PySem PySem.Spec PyProof.Rows
end Z
namespace Z
open L2 PySem PySem.Spec PyProof.Rows
open Evl (Ex ex_l ex_t ex_rd fresh_back)
end Z
namespace Z
open L2 PySem PySem.Spec PyProof.Rows
end Z
namespace Z
open L2 PySem PySem.Spec PyProof.Rows
open Evl (Ex ex_l ex_t ex_rd fresh_back)
theorem Rps.at {K : Fg} {F : Hp} : ∀ {vs : List V} {ds : List Da}, Rps K F vs ds → ∀ (i : Nat) v d, vs[i]? = some v → ds[i]? = some d → Rp K F v d
  | _, _, .nil, i, v, d, h, _ => by simp at h
  | _, _, .cons r t, 0, v, d, h1, h2 => by simp at h1 h2; subst h1; subst h2; exact r
  | _, _, .cons r t, i + 1, v, d, h1, h2 => Rps.at t i v d (by simpa using h1) (by simpa using h2)
end Z
namespace Z
open L2 PySem PySem.Spec PyProof.Rows
open Evl (Ex ex_l ex_t ex_rd fresh_back)
variable {Wx : WX}
def isOwn : Option Sv → Bool
  | some (.own _) => true
  | _ => false
structure StI (K : Fg) (p C dx : Addr) (F0 H0 : Hp) (g : Gs) (σ : L2.St) (H F : Hp) (a : Addr) (us : List (Str × V)) (fs : List (Str × Da)) : Prop where
  st : Sta K ⟨F, H, none⟩ g σ H [] [] F a
  fu : g.fu = none
  sl0 : g.sl[0]? = some (some (.ob (.at p)))
  ins : H p = some (.ins C dx us)
  fp : F p = none
  nm : us.map Prod.fst = fs.map Prod.fst
  rp : Rps K F (us.map Prod.snd) (fs.map Prod.snd)
  e0 : Ex F0 F
  kp : ∀ b o, b ≠ p → NT o → H0 b = some o → H b = some o
  nw : ∀ b, F b ≠ none → F0 b ≠ none ∨ H0 b = none
  tb : TbS H0 H
section
variable {K : Fg} {p C dx : Addr} {F0 H0 : Hp} {g g' : Gs} {σ σ' : L2.St} {H F H' F' : Hp} {a a' : Addr} {us : List (Str × V)} {fs : List (Str × Da)}
theorem no_own (h : g'.sl.any isOwn = false) {i : Nat} {ds : List Da} : g'.sl[i]? ≠ some (some (.own ds)) := fun z => by
  have h1 := List.mem_of_getElem? z
  rw [List.any_eq_false] at h
  exact h _ h1 rfl
/-- the state from now on -/
theorem Sta.rebase {c : Con} (s : Sta K c g' σ' H' [] [] F' a') (fu : g'.fu = none) (no : g'.sl.any isOwn = false) : Sta K ⟨F', H', none⟩ g' σ' H' [] [] F' a' :=
  ⟨Ex.refl _, s.eh, fun b o _ _ h => h, fun b h => .inl h, fun b h => (by cases h), fun _ => rfl, fun n h => (by rw [fu] at h; cases h), s.tmp, s.len, fun i sv h => by
    obtain ⟨v, h1, h2⟩ := s.slot i sv h
    refine ⟨v, h1, ?_⟩
    cases sv with
    | own ds => exact absurd h (no_own no)
    | _ => exact h2, s.dis, s.tabk, .refl⟩
theorem StI.next (t : StI K p C dx F0 H0 g σ H F a us fs) (s : Sta K ⟨F, H, none⟩ g' σ' H' [] [] F' a') (fu : g'.fu = none) (no : g'.sl.any isOwn = false) (sl0 : g'.sl[0]? = some (some (.ob (.at p)))) : StI K p C dx F0 H0 g' σ' H' F' a' us fs := by
  have kp : ∀ b o, NT o → H b = some o → H' b = some o := fun b o hn h => s.keep b o (fun z => by cases z) hn h
  have fp : F' p = none := by
    cases q : F' p with
    | none => rfl
    | some u =>
      rcases s.new p (ne_none q) with z | z
      · exact absurd t.fp z
      · have : H p = none := z
        rw [t.ins] at this
        cases this
  refine ⟨s.rebase fu no, fu, sl0, kp _ _ (fun _ z => by cases z) t.ins, fp, t.nm, t.rp.up s.e0, t.e0.trans s.e0, fun b o n hn h => kp b o hn (t.kp b o n hn h), fun b h => ?_, t.tb.trans s.tab⟩
  rcases s.new b h with z | z
  · exact t.nw b z
  · by_cases q : b = p
    · subst q; exact absurd fp h
    · refine .inr ?_
      cases w : H0 b with
      | none => rfl
      | some o =>
        have z : H b = none := z
        cases o with
        | tbl ps =>
          obtain ⟨ps', w'⟩ := t.tb b ps w
          rw [w'] at z; cases z
        | _ => rw [t.kp b _ q (fun _ z => by cases z) w] at z; cases z
end
end Z
namespace Z
open L2 PySem PySem.Spec PyProof.Rows
open Evl (Ex ex_l ex_t ex_rd fresh_back)
theorem forD_ix0 {t : DG} {tb : DS} {d : DEnds} (I : Nat → Gs → Prop) {ds : List Da} {g : Gs} (h1 : ∀ (i : Nat) x, ds[i]? = some x → ∀ g, I i g → ∀ N : Gs → Prop, (∀ g', I (i + 1) g' → N g') → t (.val x) g fun g1 => tb { d with nx := N, ct := N, bk := d.nx } g1)
    (h2 : ∀ g, I ds.length g → d.nx g) (h3 : I 0 g) : forD t tb ds d g := by
  refine forD_ix (k := 0) I (fun i x hx g hg N hN => ?_) (fun g hg => ?_) h3
  · rw [Nat.zero_add] at hg hN
    exact h1 i x hx g hg N hN
  · rw [Nat.zero_add] at hg
    exact h2 g hg
end Z
namespace Z
open L2 PySem PySem.Spec PyProof.Rows
end Z
namespace Z
open L2 PySem PySem.Spec PyProof.Rows
open Evl (Ex ex_l ex_t ex_rd fresh_back)
variable {Wx : WX}
def plainS : Option Sv → Bool
  | none => true
  | some (.val _) => true
  | _ => false
structure StJ (K : Fg) (nm : Str) (p C dx : Addr) (F0 H0 : Hp) (g : Gs) (σ : L2.St) (H F : Hp) (a : Addr) (us : List (Str × V)) (fs : List (Str × Da)) : Prop where
  st : Sta K ⟨F, H, none⟩ g σ H [] [] F a
  fu : g.fu = none
  sl0 : g.sl[0]? = some (some (.ob (.insAt p nm fs)))
  pl : g.sl.tail.all plainS = true
  nsC : PySem.W.nsIn K mainGlobals nm = some (some (.ref C))
  ins : F p = some (.ins C dx us)
  fp : F0 p = none
  nm : us.map Prod.fst = fs.map Prod.fst
  rp : Rps K F (us.map Prod.snd) (fs.map Prod.snd)
  e0 : Ex F0 F
  kp : ∀ b o, b ≠ p → NT o → H0 b = some o → H b = some o
  nw : ∀ b, b ≠ p → F b ≠ none → F0 b ≠ none ∨ H0 b = none
  tb : TbS H0 H
/-- the new instance is as it was, nothing is own -/
def okJ (g g' : Gs) : Prop := g'.fu = none ∧ g'.sl[0]? = g.sl[0]? ∧ g'.sl.tail.all plainS = true
section
variable {K : Fg} {nm : Str} {p C dx : Addr} {F0 H0 : Hp} {g g' : Gs} {σ σ' : L2.St} {H F H' F' : Hp} {a a' : Addr} {us : List (Str × V)} {fs : List (Str × Da)}
theorem no_ownJ {k : Kd} (h0 : g.sl[0]? = some (some (.ob k))) (ht : g.sl.tail.all plainS = true) {i : Nat} {ds : List Da} : g.sl[i]? ≠ some (some (.own ds)) := fun z => by
  cases i with
  | zero => rw [h0] at z; cases z
  | succ i =>
    have h1 : g.sl.tail[i]? = some (some (.own ds)) := by rw [List.getElem?_tail]; exact z
    have := List.all_eq_true.mp ht _ (List.mem_of_getElem? h1)
    cases this
theorem StJ.next (t : StJ K nm p C dx F0 H0 g σ H F a us fs) (s : Sta K ⟨F, H, none⟩ g' σ' H' [] [] F' a') (ok : okJ g g') : StJ K nm p C dx F0 H0 g' σ' H' F' a' us fs := by
  obtain ⟨fu, o0, pl⟩ := ok
  have sl0 : g'.sl[0]? = some (some (.ob (.insAt p nm fs))) := o0.trans t.sl0
  have kp : ∀ b o, NT o → H b = some o → H' b = some o := fun b o hn h => s.keep b o (fun z => by cases z) hn h
  refine ⟨⟨Ex.refl _, s.eh, fun b o _ _ h => h, fun b h => .inl h, fun b h => (by cases h), fun _ => rfl, fun n h => (by rw [fu] at h; cases h), s.tmp, s.len, fun i sv h => ?_, s.dis, s.tabk, .refl⟩, fu, sl0, pl, t.nsC, s.e0 _ _ t.ins, t.fp, t.nm, t.rp.up s.e0, t.e0.trans s.e0, fun b o n hn h => kp b o hn (t.kp b o n hn h), fun b n h => ?_, t.tb.trans s.tab⟩
  · obtain ⟨v, h1, h2⟩ := s.slot i sv h
    refine ⟨v, h1, ?_⟩
    cases sv with
    | own ds => exact absurd h (no_ownJ sl0 pl)
    | _ => exact h2
  · rcases s.new b h with z | z
    · exact t.nw b n z
    · refine .inr ?_
      cases w : H0 b with
      | none => rfl
      | some o =>
        have z : H b = none := z
        cases o with
        | tbl ps =>
          obtain ⟨ps', w'⟩ := t.tb b ps w
          rw [w'] at z; cases z
        | _ => rw [t.kp b _ n (fun _ z => by cases z) w] at z; cases z
end
end Z
namespace Z
open L2 PySem PySem.Spec PyProof.Rows
/-- the sign of the root of n / d minus t / b * 2 ^ e -/
def cmR (n d e t b : Int) : Int :=
  (if d * t * t * 2 ^ (2 * e).toNat < n * b * b * 2 ^ (0 - 2 * e).toNat then 1 else 0) - (if n * b * b * 2 ^ (0 - 2 * e).toNat < d * t * t * 2 ^ (2 * e).toNat then 1 else 0)
theorem cmR_pos {n d e t b : Int} : 0 < cmR n d e t b ↔ d * t * t * 2 ^ (2 * e).toNat < n * b * b * 2 ^ (0 - 2 * e).toNat := by
  unfold cmR
  split <;> split <;> omega
theorem sq_le {x y : Int} (h0 : 0 ≤ x) (h : x ≤ y) : x * x ≤ y * y := Int.mul_le_mul h h h0 (Int.le_trans h0 h)
theorem p4 (m : Nat) : (2 : Int) ^ m * 2 ^ m = 4 ^ m := by rw [← Int.mul_pow]; rfl
/-- whether the root's position is above the threshold -/
def UpR (n d e k : Int) (T : Bool → Th) : Prop :=
  cmR n d e k 1 ≠ 0 ∧ (0 < cmR n d e (k * (T (decide (k % 2 = 1))).d + (T (decide (k % 2 = 1))).n) (T (decide (k % 2 = 1))).d ∨ (cmR n d e (k * (T (decide (k % 2 = 1))).d + (T (decide (k % 2 = 1))).n) (T (decide (k % 2 = 1))).d = 0 ∧ (T (decide (k % 2 = 1))).up = true))
instance (n d e k : Int) (T : Bool → Th) : Decidable (UpR n d e k T) := by unfold UpR; infer_instance
end Z
namespace Z
open L2 PySem PySem.Spec PyProof.Rows
open Evl (Ex ex_l ex_t ex_rd fresh_back)
end Z
namespace Z
open L2 PySem PySem.Spec PyProof.Rows
open Evl (Ex ex_l ex_t ex_rd fresh_back)
mutual
def layX : Da → Bool
  | .none => true
  | .bool _ => true
  | .int _ => true
  | .str x => PyData.strOk x
  | .list xs => layXs xs
  | .tuple xs => layXs xs
  | .dict kvs => layKv kvs
def layXs : List Da → Bool
  | [] => true
  | x :: xs => layX x && layXs xs
def layKv : List (Da × Da) → Bool
  | [] => true
  | (k, v) :: r => layX k && layX v && layKv r
end
mutual
def szX : Da → Nat
  | .none => 4
  | .bool _ => 5
  | .int _ => 1921
  | .str x => 10 * x.length + 2
  | .list xs => szXs xs + 3
  | .tuple xs => szXs xs + 3
  | .dict kvs => szKv kvs + 3
def szXs : List Da → Nat
  | [] => 0
  | x :: xs => szX x + 2 + szXs xs
def szKv : List (Da × Da) → Nat
  | [] => 0
  | (k, v) :: r => szX k + szX v + 4 + szKv r
end
theorem dictText_len_le (ps : List Str) : (dictText ps).length ≤ (ps.map (·.length)).sum + 2 * ps.length + 2 := by
  have h : (Str.join ", " ps).length ≤ (ps.map (·.length)).sum + ps.length * 2 := StrLaws.join_length_le ", " ps
  unfold dictText
  rw [strLen_append, strLen_append]
  show 1 + (Str.join ", " ps).length + 1 ≤ _
  omega
mutual
theorem szX_ok : ∀ d : Da, layX d = true → d.showable = true → d.shown.length ≤ szX d
  | .none, _, _ => by decide +kernel
  | .bool true, _, _ => by decide +kernel
  | .bool false, _, _ => by decide +kernel
  | .int i, _, h => int_text_len_1921 (of_decide_eq_true (show decide (i.natAbs.log2 < 1920) = true from h))
  | .str x, h, _ => StrLaws.reprText_len x (strOk_small h)
  | .list xs, h, h' => by
    have h1 := szXs_ok xs h (by simpa [PyData.showable] using h')
    have h2 := listText_len_le (PyData.shownAll xs)
    show (listText (PyData.shownAll xs)).length ≤ szXs xs + 3
    omega
  | .tuple xs, h, h' => by
    have h1 := szXs_ok xs h (by simpa [PyData.showable] using h')
    have h2 := tupleText_len_le (PyData.shownAll xs)
    show (tupleText (PyData.shownAll xs)).length ≤ szXs xs + 3
    omega
  | .dict kvs, h, h' => by
    have h1 := szKv_ok kvs h (by simpa [PyData.showable] using h')
    have h2 := dictText_len_le (PyData.shownKv kvs)
    show (dictText (PyData.shownKv kvs)).length ≤ szKv kvs + 3
    omega
theorem szXs_ok : ∀ xs : List Da, layXs xs = true → PyData.showableAll xs = true → ((PyData.shownAll xs).map (·.length)).sum + 2 * (PyData.shownAll xs).length ≤ szXs xs
  | [], _, _ => by simp [PyData.shownAll, szXs]
  | x :: xs, h, h' => by
    have q : layX x = true ∧ layXs xs = true := by simpa [layXs] using h
    have q' : x.showable = true ∧ PyData.showableAll xs = true := by simpa [PyData.showableAll] using h'
    have h1 := szX_ok x q.1 q'.1
    have h2 := szXs_ok xs q.2 q'.2
    simp only [PyData.shownAll, szXs, List.map_cons, List.sum_cons, List.length_cons]
    omega
theorem szKv_ok : ∀ kvs : List (Da × Da), layKv kvs = true → PyData.showableKv kvs = true → ((PyData.shownKv kvs).map (·.length)).sum + 2 * (PyData.shownKv kvs).length ≤ szKv kvs
  | [], _, _ => by simp [PyData.shownKv, szKv]
  | (k, v) :: r, h, h' => by
    have q : (layX k = true ∧ layX v = true) ∧ layKv r = true := by simpa [layKv] using h
    have q' : (k.showable = true ∧ v.showable = true) ∧ PyData.showableKv r = true := by simpa [PyData.showableKv] using h'
    have h1 := szX_ok k q.1.1 q'.1.1
    have h2 := szX_ok v q.1.2 q'.1.2
    have h3 := szKv_ok r q.2 q'.2
    have e : (k.shown ++ ": " ++ v.shown).length = k.shown.length + 2 + v.shown.length := by
      rw [strLen_append, strLen_append]; rfl
    simp only [PyData.shownKv, szKv, List.map_cons, List.sum_cons, List.length_cons, e]
    omega
end
mutual
theorem cps_shownX : ∀ d : Da, layX d = true → Cps d.shown
  | .none, _ => cps_of _
  | .bool b, _ => by cases b <;> exact cps_of _
  | .int i, _ => cps_of _
  | .str x, h => cps_repr (cps_ok.mp h)
  | .list xs, h => cps_app (cps_text _ _ _ (cps_of _) (cps_allX xs h)) (cps_of _)
  | .tuple xs, h => cps_app (cps_app (cps_of _) (cps_join (cps_of _) _ (cps_allX xs h))) (cps_of _)
  | .dict kvs, h => cps_app (cps_app (cps_of _) (cps_join (cps_of _) _ (cps_allKv kvs h))) (cps_of _)
theorem cps_allX : ∀ xs : List Da, layXs xs = true → ∀ t ∈ PyData.shownAll xs, Cps t
  | [], _, t, ht => by simp [PyData.shownAll] at ht
  | x :: xs, h, t, ht => by
    have q : layX x = true ∧ layXs xs = true := by simpa [layXs] using h
    rcases List.mem_cons.mp (show t ∈ x.shown :: PyData.shownAll xs from ht) with rfl | ht
    · exact cps_shownX x q.1
    · exact cps_allX xs q.2 t ht
theorem cps_allKv : ∀ kvs : List (Da × Da), layKv kvs = true → ∀ t ∈ PyData.shownKv kvs, Cps t
  | [], _, t, ht => by simp [PyData.shownKv] at ht
  | (k, v) :: r, h, t, ht => by
    have q : (layX k = true ∧ layX v = true) ∧ layKv r = true := by simpa [layKv] using h
    rcases List.mem_cons.mp (show t ∈ (k.shown ++ ": " ++ v.shown) :: PyData.shownKv r from ht) with rfl | ht
    · exact cps_app (cps_app (cps_shownX k q.1.1) (cps_of _)) (cps_shownX v q.1.2)
    · exact cps_allKv r q.2 t ht
end
/-- may be shown, dicts among them -/
structure ShX (d : Da) : Prop where
  lay : layX d = true
  sh : d.showable = true
  dp : d.depth ≤ 60
  sz : szX d ≤ 16000000
theorem ShX.len {d : Da} (h : ShX d) : d.shown.length ≤ sizeLine := Nat.le_trans (szX_ok d h.lay h.sh) (Nat.le_trans h.sz (by decide))
theorem ShX.cps {d : Da} (h : ShX d) : Cps d.shown := cps_shownX d h.lay
section
variable {X : Cx} {pins : List (Addr × Obj)} {σ : L2.St} {H F : Hp} {s : Shared}
theorem rek_more {P : Program} {w : World} {as as' : List Addr} {h : Heap} {d d' : Nat} (hsub : ∀ b ∈ as, b ∈ as') (hd : d ≤ d') : ∀ {es : List DictEntry} {ps : List Str}, ReprEntriesK P w as h d es ps → ReprEntriesK P w as' h d' es ps
  | _, _, .nil => .nil
  | _, _, .cons h1 h2 h3 => .cons ((h1.more hsub).level_le hd) ((h2.more hsub).level_le hd) (rek_more hsub hd h3)
theorem key_reads {h : Heap} {k : Key} {v : Value} (e : keyIs k v = true) : Reads h v (keyD k) [] := by
  rcases keyIs_shape e with ⟨i, t, rfl, rfl⟩ | ⟨x, t, rfl, rfl⟩
  · exact .int i t
  · exact .str x t
mutual
theorem rp_repr (I : Inv X pins σ H s) (e : Ex F H) : ∀ (d : Da) (v : V) (u : Value), Rp X.K F v d → RelV v u → d.showable = true → d.shown.length ≤ sizeLine →
    ∃ as bs, Reads s.heap u d as ∧ ReadAtMost s.heap d.depth bs ∧ ReprK X.prog X.w bs s.heap d.depth u d.shown
  | .none, _, _, h, r, _, _ => by cases h; cases r; exact ⟨[], [], .none, (fun _ h => nomatch h), by simp only [PyData.shown]; exact .of_is ReprIs.none _ _ _⟩
  | .bool b, _, _, h, r, _, _ => by cases h; cases r; exact ⟨[], [], .bool b, (fun _ h => nomatch h), by simp only [PyData.shown]; exact .of_is (ReprIs.bool b) _ _ _⟩
  | .int i, _, _, h, r, hs, _ => by cases h; obtain ⟨t, rfl⟩ := r; exact ⟨[], [], .int i t, (fun _ h => nomatch h), by simp only [PyData.shown]; exact .of_is (ReprIs.int t (by simpa [PyData.showable] using hs)) _ _ _⟩
  | .str x, _, _, h, r, _, hz => by cases h; obtain ⟨t, rfl⟩ := r; exact ⟨[], [], .str x t, (fun _ h => nomatch h), by simp only [PyData.shown]; exact .of_is (ReprIs.str x t (by simpa only [PyData.shown] using hz)) _ _ _⟩
  | .list ds, _, _, h, r, hs, hz => by
    cases h with
    | lst hf ha =>
      rename_i a xs
      cases r
      obtain ⟨its, rv, ⟨⟨cls, dd, data, sls⟩, n, ho, hc, hdn, hdt⟩, hlen⟩ := I.list (.inl (.inl (e _ _ hf)))
      simp only at hc hdt
      subst hc hdt
      have hz' : (listText (PyData.shownAll ds)).length ≤ sizeLine := by simpa only [PyData.shown] using hz
      obtain ⟨as, bs, h4, hb, hk⟩ := rps_repr I e ds xs its ha rv (by simpa [PyData.showable] using hs) (fun t ht => Nat.le_trans (listText_mem_le ht) hz')
      have r : Reads s.heap (.ref a) (.list ds) _ := .list ho rfl rfl h4
      have hna : a ∉ bs := not_mem_of_deeper r (by simp only [PyData.depth]; omega) hb
      refine ⟨_, a :: bs, r, ReadAtMost.cons r (by simp only [PyData.depth]; omega) hb, ?_⟩
      simp only [PyData.depth, PyData.shown]
      cases its with
      | nil =>
        cases h4
        simp only [PyData.shownAll, listText_nil]
        exact ReprK.listEmpty ho rfl rfl
      | cons y l => exact ReprK.list ho rfl rfl hna (by simpa using hk.length_eq) (fun i y e => hk.item i y (by simpa using e))
  | .tuple ds, _, _, h, r, hs, hz => by
    cases h with
    | tup hf ha =>
      rename_i a xs
      cases r
      obtain ⟨its, rv, ⟨o, ho, hc, n, hd⟩, hlen⟩ := I.tuple (ex_t e hf)
      have hz' : (tupleText (PyData.shownAll ds)).length ≤ sizeLine := by simpa only [PyData.shown] using hz
      obtain ⟨as, bs, h4, hb, hk⟩ := rps_repr I e ds xs its ha rv (by simpa [PyData.showable] using hs) (fun t ht => Nat.le_trans (tupleText_mem_le ht) hz')
      have r : Reads s.heap (.ref a) (.tuple ds) _ := .tuple ho hc hd h4
      have hna : a ∉ bs := not_mem_of_deeper r (by simp only [PyData.depth]; omega) hb
      refine ⟨_, a :: bs, r, ReadAtMost.cons r (by simp only [PyData.depth]; omega) hb, ?_⟩
      simp only [PyData.depth, PyData.shown]
      exact ReprK.tuple ho hc hd hna hk
  | .dict es, _, _, h, r, hs, hz => by
    cases h with
    | dct hf ha =>
      rename_i a kvs
      cases r
      obtain ⟨hl, hsys, vs, hkv, o, en, ep, ho, hx, hd, _, hp, _⟩ := dk_rd I.hok (ex_rd e hf)
      have hz' : (dictText (PyData.shownKv es)).length ≤ sizeLine := by simpa only [PyData.shown] using hz
      obtain ⟨as, bs, b, h4, h5, hb, hk⟩ := rpk_repr I e es kvs vs en.toList ha hkv hp (by simpa [PyData.showable] using hs) (fun t ht => Nat.le_trans (dictText_mem_le ht) hz')
      have r : Reads s.heap (.ref a) (.dict es) _ := .dict ho hx.1 hd h4 h5
      have hna : a ∉ b := not_mem_of_deeper r (by simp only [PyData.depth]; omega) hb
      refine ⟨_, a :: b, r, ReadAtMost.cons r (by simp only [PyData.depth]; omega) hb, ?_⟩
      simp only [PyData.depth, PyData.shown]
      exact ReprK.dict ho hx.1 hd hsys hna hk
theorem rps_repr (I : Inv X pins σ H s) (e : Ex F H) : ∀ (ds : List Da) (vs : List V) (us : List Value), Rps X.K F vs ds → Vals vs us → PyData.showableAll ds = true → (∀ t ∈ PyData.shownAll ds, t.length ≤ sizeLine) →
    ∃ as bs, ReadsAll s.heap us ds as ∧ ReadAtMost s.heap (PyData.depthAll ds) bs ∧ ReprAllK X.prog X.w bs s.heap (PyData.depthAll ds) us (PyData.shownAll ds)
  | [], _, _, h, r, _, _ => by cases h; cases r; exact ⟨[], [], .nil, (fun _ h => nomatch h), by simp only [PyData.shownAll]; exact .nil⟩
  | d :: ds, _, _, h, r, hs, hz => by
    cases h with
    | cons h1 h2 =>
      cases r with
      | cons r1 r2 =>
        have hs' : d.showable = true ∧ PyData.showableAll ds = true := by simpa [PyData.showableAll] using hs
        obtain ⟨a1, b1, q1, hb1, k1⟩ := rp_repr I e d _ _ h1 r1 hs'.1 (hz _ (by simp only [PyData.shownAll]; exact List.mem_cons_self ..))
        obtain ⟨a2, b2, q2, hb2, k2⟩ := rps_repr I e ds _ _ h2 r2 hs'.2 (fun t ht => hz t (by simp only [PyData.shownAll]; exact List.mem_cons_of_mem _ ht))
        refine ⟨a1 ++ a2, b1 ++ b2, .cons q1 q2, ?_, ?_⟩
        · intro b hm
          simp only [PyData.depthAll]
          rcases List.mem_append.mp hm with hm | hm
          · obtain ⟨d', as', r', hd'⟩ := hb1 b hm
            exact ⟨d', as', r', Nat.le_trans hd' (Nat.le_max_left _ _)⟩
          · obtain ⟨d', as', r', hd'⟩ := hb2 b hm
            exact ⟨d', as', r', Nat.le_trans hd' (Nat.le_max_right _ _)⟩
        · simp only [PyData.depthAll, PyData.shownAll]
          exact .cons ((k1.more fun b hb => List.mem_append_left _ hb).level_le (Nat.le_max_left _ _)) (k2.more_le (fun b hb => List.mem_append_right _ hb) (Nat.le_max_right _ _))
theorem rpk_repr (I : Inv X pins σ H s) (e : Ex F H) : ∀ (es : List (Da × Da)) (kvs : List (Key × V)) (vs : List (Key × Value)) (en : List DictEntry), RpK X.K F kvs es → KV kvs vs → Pairs (mixKind X.prog X.w) en vs → PyData.showableKv es = true → (∀ t ∈ PyData.shownKv es, t.length ≤ sizeLine) →
    ∃ as bs b, ReadsAll s.heap (en.map (·.key)) (es.map (·.1)) as ∧ ReadsAll s.heap (en.map (·.val)) (es.map (·.2)) bs ∧ ReadAtMost s.heap (PyData.depthKv es) b ∧ ReprEntriesK X.prog X.w b s.heap (PyData.depthKv es) en (PyData.shownKv es)
  | [], _, _, _, h, r, p, _, _ => by
    cases h; cases r; cases p
    exact ⟨[], [], [], .nil, .nil, (fun _ h => nomatch h), by simp only [PyData.shownKv]; exact .nil⟩
  | (_, d) :: es, _, _, _, h, r, p, hs, hz => by
    cases h with
    | cons h1 h2 =>
      cases r with
      | cons r1 r2 =>
        cases p with
        | cons p1 p2 p3 =>
          rename_i k v kvs' q vs' en' es'
          obtain ⟨rk, rv⟩ := r1
          have rk : k = q.1 := rk
          have rv : RelV v q.2 := rv
          have hs' : ((keyD k).showable = true ∧ d.showable = true) ∧ PyData.showableKv es = true := by simpa [PyData.showableKv] using hs
          have hz1 : ((keyD k).shown ++ ": " ++ d.shown).length ≤ sizeLine := hz _ (by simp only [PyData.shownKv]; exact List.mem_cons_self ..)
          rw [strLen_append, strLen_append] at hz1
          have p1' : keyIs k en'.key = true := by rw [rk]; exact p1
          obtain ⟨a1, b1, q1, hb1, k1⟩ := rp_repr I e d _ _ h1 (show RelV v en'.val by rw [p2]; exact rv) hs'.1.2 (by omega)
          obtain ⟨a2, a3, b2, q2, q3, hb2, k2⟩ := rpk_repr I e es _ _ _ h2 r2 p3 hs'.2 (fun t ht => hz t (by simp only [PyData.shownKv]; exact List.mem_cons_of_mem _ ht))
          have kk : ReprK X.prog X.w (b1 ++ b2) s.heap (max (max (keyD k).depth d.depth) (PyData.depthKv es)) en'.key (keyD k).shown := by
            have g := hs'.1.1
            rcases keyIs_shape p1' with ⟨i, t, e1, e2⟩ | ⟨x, t, e1, e2⟩
            · rw [e2]
              rw [e1] at g ⊢
              simp only [keyD, PyData.shown]
              exact .of_is (ReprIs.int t (by simpa [keyD, PyData.showable] using g)) _ _ _
            · rw [e2]
              rw [e1] at hz1 ⊢
              simp only [keyD, PyData.shown] at hz1 ⊢
              exact .of_is (ReprIs.str x t (by omega)) _ _ _
          refine ⟨[] ++ a2, a1 ++ a3, b1 ++ b2, .cons (key_reads p1') q2, .cons q1 q3, ?_, ?_⟩
          · intro b hm
            simp only [PyData.depthKv]
            rcases List.mem_append.mp hm with hm | hm
            · obtain ⟨d', as', r', hd'⟩ := hb1 b hm
              exact ⟨d', as', r', by omega⟩
            · obtain ⟨d', as', r', hd'⟩ := hb2 b hm
              exact ⟨d', as', r', by omega⟩
          · simp only [PyData.depthKv, PyData.shownKv]
            have kv : ReprK X.prog X.w (b1 ++ b2) s.heap (max (max (keyD k).depth d.depth) (PyData.depthKv es)) en'.val d.shown := (k1.more fun b hb => List.mem_append_left _ hb).level_le (by omega)
            have kr : ReprEntriesK X.prog X.w (b1 ++ b2) s.heap (max (max (keyD k).depth d.depth) (PyData.depthKv es)) es' (PyData.shownKv es) := rek_more (fun b hb => List.mem_append_right _ hb) (by omega) k2
            first
              | exact .cons kk kv kr
              | (rw [Nat.max_assoc] at kk kv kr; exact .cons kk kv kr)
end
theorem shows_x (I : Inv X pins σ H s) (e : Ex F H) {a : Addr} {d : Da} {v : V} (hr : Rp X.K F v d) (r : RelV v (.ref a)) (hs : d.showable = true) (hz : d.shown.length ≤ sizeLine) : ∃ T idr, ShowsBy X.prog X.w s.heap a d T idr := by
  cases hr with
  | non => cases r
  | bl b => cases r
  | int i => obtain ⟨t, r⟩ := r; cases r
  | str x => obtain ⟨t, r⟩ := r; cases r
  | lst hf ha =>
    rename_i xs ds
    cases r
    obtain ⟨its, rv, ⟨⟨cls, dd, data, sls⟩, n, ho, hc, hdn, hdt⟩, hlen⟩ := I.list (.inl (.inl (e _ _ hf)))
    simp only at hc hdt
    subst hc hdt
    have hz' : (listText (PyData.shownAll ds)).length ≤ sizeLine := by simpa only [PyData.shown] using hz
    obtain ⟨as, bs, h4, hb, hk⟩ := rps_repr I e ds xs its ha rv (by simpa [PyData.showable] using hs) (fun t ht => Nat.le_trans (listText_mem_le ht) hz')
    have r : Reads s.heap (.ref a) (.list ds) _ := .list ho rfl rfl h4
    have hna : a ∉ bs := not_mem_of_deeper r (by simp only [PyData.depth]; omega) hb
    refine ⟨"list", "list.__repr__", PySem.F.slot_list_repr.toG, PySem.F.slot_list_str, PySem.F.slot_list_format, fun s hk0 => ⟨_, hk0 _ _ ho, rfl⟩, fun A E s Q hg hu hk0 hQ => ?_⟩
    simp only [PyData.depth] at hu
    simp only [PyData.shown] at hQ
    cases its with
    | nil =>
      cases h4
      simp only [PyData.shownAll, listText_nil] at hQ
      exact call_list_repr_empty ⟨_, hk0 _ _ ho, rfl⟩ (hk0 _ _ ho) rfl (hQ s.heap _ _ fun _ _ e => e)
    | cons y l => exact call_list_reprK ho rfl rfl hna (by simpa using hk.length_eq) (fun i y e => hk.item i y (by simpa using e)) hg (fun b _ => Clear.nil b) hu hk0 hQ hz'
  | tup hf ha =>
    rename_i xs ds
    cases r
    obtain ⟨its, rv, ⟨o, ho, hc, n, hd⟩, hlen⟩ := I.tuple (ex_t e hf)
    have hz' : (tupleText (PyData.shownAll ds)).length ≤ sizeLine := by simpa only [PyData.shown] using hz
    obtain ⟨as, bs, h4, hb, hk⟩ := rps_repr I e ds xs its ha rv (by simpa [PyData.showable] using hs) (fun t ht => Nat.le_trans (tupleText_mem_le ht) hz')
    have r : Reads s.heap (.ref a) (.tuple ds) _ := .tuple ho hc hd h4
    have hna : a ∉ bs := not_mem_of_deeper r (by simp only [PyData.depth]; omega) hb
    refine ⟨"tuple", "tuple.__repr__", PySem.F.slot_tuple_repr, PySem.F.slot_tuple_str, PySem.F.slot_tuple_format, fun s hk0 => ⟨o, hk0 _ _ ho, hc⟩, fun A E s Q hg hu hk0 hQ => ?_⟩
    simp only [PyData.depth] at hu
    simp only [PyData.shown] at hQ
    exact call_tuple_reprK ho hc hd hna hk hg (fun b _ => Clear.nil b) hu hk0 hQ hz'
  | dct hf ha =>
    rename_i kvs es
    cases r
    obtain ⟨hl, hsys, vs, hkv, o, en, ep, ho, hx, hd, _, hp, _⟩ := dk_rd I.hok (ex_rd e hf)
    have hz' : (dictText (PyData.shownKv es)).length ≤ sizeLine := by simpa only [PyData.shown] using hz
    obtain ⟨as, bs, b, h4, h5, hb, hk⟩ := rpk_repr I e es kvs vs en.toList ha hkv hp (by simpa [PyData.showable] using hs) (fun t ht => Nat.le_trans (dictText_mem_le ht) hz')
    have r : Reads s.heap (.ref a) (.dict es) _ := .dict ho hx.1 hd h4 h5
    have hna : a ∉ b := not_mem_of_deeper r (by simp only [PyData.depth]; omega) hb
    refine ⟨"dict", "dict.__repr__", PySem.F.slot_dict_repr, PySem.F.slot_dict_str, PySem.F.slot_dict_format, fun s hk0 => ⟨o, hk0 _ _ ho, hx.1⟩, fun A E s Q hg hu hk0 hQ => ?_⟩
    simp only [PyData.depth] at hu
    simp only [PyData.shown] at hQ
    exact call_dict_reprK ho hx.1 hd hsys hna hk hg (fun b _ => Clear.nil b) hu hk0 hQ hz'
end
def cReprX : CF := fun rs post => match rs with
  | [.val d] => ShX d ∧ post (.str d.shown)
  | _ => False
section
variable {X : Cx}
theorem call_reprX (hu : X.A.units + 64 < cLine) (hg : X.A.guards = some []) : CallR X (.builtin "repr") (fun xs H Q => ∃ x d F, xs = [x] ∧ Ex F H ∧ Rp X.K F x d ∧ ShX d ∧ Q (.str d.shown) H) := by
  intro pins s σ H xs us Q I r h
  obtain ⟨x, d, F, rfl, ef, hd, hs, q⟩ := h
  obtain ⟨u, rfl, ru⟩ := r.one
  have hz := hs.len
  have key : ∀ a, u = .ref a → wpAny (model X.prog X.w) X.A (call (.builtin "repr") [u]) (EP X pins σ Q) X.xe s := fun a e => by
    subst e
    obtain ⟨T, idr, S⟩ := shows_x I ef hd ru hs.sh hz
    exact call_repr_slot (by omega) (S.typeIs s fun _ _ e => e) S.slotRepr (S.call X.A.in1 X.xe s _ hg (by show X.A.units + 1 + d.depth < cLine; have := hs.dp; omega) (fun _ _ e => e) fun h' u tk hk => ⟨_, _, rfl, ⟨.str _, H, I.kept hk, ⟨_, rfl⟩, q⟩⟩)
  cases hd with
  | non => cases ru; exact P.repr_of_none ⟨.str _, H, I.tok _, ⟨_, rfl⟩, q⟩
  | bl b => cases ru; exact P.repr_of_bool ⟨.str _, H, I.tok _, ⟨_, rfl⟩, q⟩
  | int i =>
    obtain ⟨t, rfl⟩ := ru
    exact P.repr_of_int (of_decide_eq_true (show decide (i.natAbs.log2 < 1920) = true from hs.sh)) ⟨.str _, H, I.tok _, ⟨_, rfl⟩, q⟩
  | str z =>
    obtain ⟨t, rfl⟩ := ru
    exact P.repr_of_str ⟨.str _, H, I.tok _, ⟨_, rfl⟩, q⟩ hz
  | lst sq ha => exact key _ (by cases ru; rfl)
  | tup sq ha => exact key _ (by cases ru; rfl)
  | dct sq ha => exact key _ (by cases ru; rfl)
theorem ok_reprX {K : Fg} : CallOk K (fun xs H Q => ∃ x d F, xs = [x] ∧ Ex F H ∧ Rp K F x d ∧ ShX d ∧ Q (.str d.shown) H) cReprX := fun F H a fu vs rs post Q e t hf k => by
  unfold cReprX at hf
  split at hf
  · rename_i d
    obtain ⟨v, rfl, r⟩ := t.v1
    exact ⟨v, d, F, rfl, e, r, hf.1, k _ _ H F hf.2 (Gr.refl e) (.str _)⟩
  · exact hf.elim
variable {p pos : Pos} {e : Expr} {tr : DA} {k : Nat}
theorem e_reprX (hr : Room k X.A) (hgd : X.A.guards = some []) (hg : Gl X "repr") (hm : X.mg "repr" = none) (ha : PA X [e] (upA X.K tr)) (he : starEach [e] X.env = (false, eval e X.env) :: starEach [] X.env := by rfl) : PE X (.Call (.Name "repr" p) [e] [] pos) (up X.K (dCB cReprX tr)) :=
  e_callB (call_reprX hr.units hgd) ok_reprX hg hm (by decide +kernel) ha (by decide) (by decide) he rfl
end
end Z
namespace Z
open L2 PySem PySem.Spec PyProof.Rows
theorem sq_lt' {x y : Int} (hx : 0 ≤ x) (hy : 0 ≤ y) (h : x * x < y * y) : x < y := by
  rcases Int.lt_or_le x y with z | z
  · exact z
  · have := sq_le hy z
    omega
theorem sq_le' {x y : Int} (hx : 0 ≤ x) (hy : 0 ≤ y) (h : x * x ≤ y * y) : x ≤ y := by
  rcases Int.lt_or_le y x with z | z
  · have := Int.mul_le_mul z z (by omega) hx
    have e : (y + 1) * (y + 1) = y * y + 2 * y + 1 := by grind
    omega
  · exact z
theorem p4n (e : Int) : (2 : Int) ^ (2 * e).toNat = 2 ^ e.toNat * 2 ^ e.toNat ∧ (2 : Int) ^ (0 - 2 * e).toNat = 2 ^ (-e).toNat * 2 ^ (-e).toNat := by
  rw [← Int.pow_add, ← Int.pow_add]
  constructor <;> congr 1 <;> omega
/-- t / u at the root's side, told by a fraction a / b: A = a * 2 ^ -e, B = b * 2 ^ e -/
structure Side (n d a b A B e : Int) : Prop where
  hA : A = a * 2 ^ (-e).toNat
  hB : B = b * 2 ^ e.toNat
  n0 : 0 < n
  d0 : 0 < d
  a0 : 0 ≤ a
  b0 : 0 < b
section
variable {n d a b A B e t u : Int}
theorem Side.A0 (s : Side n d a b A B e) : 0 ≤ A := by rw [s.hA]; exact Int.mul_nonneg s.a0 (Int.le_of_lt (pow2_pos _))
theorem Side.B0 (s : Side n d a b A B e) : 0 < B := by rw [s.hB]; exact Int.mul_pos s.b0 (pow2_pos _)
/-- the two squares, told by cmR's two sides -/
theorem Side.sq (s : Side n d a b A B e) : (t * B) * (t * B) * d = (d * t * t * 2 ^ (2 * e).toNat) * (b * b) ∧ (u * A) * (u * A) * d = (u * u * 2 ^ (0 - 2 * e).toNat) * (a * a * d) := by
  rw [s.hA, s.hB, (p4n e).1, (p4n e).2]
  constructor <;> grind
/-- the fraction is not above the root -/
theorem Side.le (s : Side n d a b A B e) (h : a * a * d ≤ n * (b * b)) (u0 : 0 < u) (t0 : 0 ≤ t) (c : cmR n d e t u ≤ 0) : u * A ≤ t * B := by
  have c : n * u * u * 2 ^ (0 - 2 * e).toNat ≤ d * t * t * 2 ^ (2 * e).toNat := by
    have := cmR_pos (n := n) (d := d) (e := e) (t := t) (b := u)
    omega
  have hd := s.d0
  have bb := Int.mul_pos s.b0 s.b0
  refine sq_le' (Int.mul_nonneg (Int.le_of_lt u0) s.A0) (Int.mul_nonneg t0 (Int.le_of_lt s.B0)) (Int.le_of_mul_le_mul_right (a := d) ?_ hd)
  rw [(s.sq (t := t) (u := u)).1, (s.sq (t := t) (u := u)).2]
  have p := Int.mul_pos (Int.mul_pos u0 u0) (pow2_pos (0 - 2 * e).toNat)
  have q1 := Int.mul_le_mul_of_nonneg_right c (Int.le_of_lt bb)
  have q2 := Int.mul_le_mul_of_nonneg_left h (Int.le_of_lt p)
  have e1 : n * u * u * 2 ^ (0 - 2 * e).toNat * (b * b) = u * u * 2 ^ (0 - 2 * e).toNat * (n * (b * b)) := by grind
  omega
/-- the fraction is below the root -/
theorem Side.lt (s : Side n d a b A B e) (h : a * a * d < n * (b * b)) (u0 : 0 < u) (t0 : 0 ≤ t) (c : cmR n d e t u ≤ 0) : u * A < t * B := by
  have c : n * u * u * 2 ^ (0 - 2 * e).toNat ≤ d * t * t * 2 ^ (2 * e).toNat := by
    have := cmR_pos (n := n) (d := d) (e := e) (t := t) (b := u)
    omega
  have hd := s.d0
  have bb := Int.mul_pos s.b0 s.b0
  refine sq_lt' (Int.mul_nonneg (Int.le_of_lt u0) s.A0) (Int.mul_nonneg t0 (Int.le_of_lt s.B0)) (Int.lt_of_mul_lt_mul_right (a := d) ?_ (Int.le_of_lt hd))
  rw [(s.sq (t := t) (u := u)).1, (s.sq (t := t) (u := u)).2]
  have p := Int.mul_pos (Int.mul_pos u0 u0) (pow2_pos (0 - 2 * e).toNat)
  have q1 := Int.mul_le_mul_of_nonneg_right c (Int.le_of_lt bb)
  have q2 := Int.mul_lt_mul_of_pos_left h p
  have e1 : n * u * u * 2 ^ (0 - 2 * e).toNat * (b * b) = u * u * 2 ^ (0 - 2 * e).toNat * (n * (b * b)) := by grind
  omega
end
end Z
namespace Z
open L2 PySem PySem.Spec PyProof.Rows
open Evl (Ex ex_l ex_t ex_rd fresh_back)
variable {Wx : WX}
theorem Rps.app2 {K : Fg} {F : Hp} : ∀ {vs : List V} {ds : List Da} {v : V} {d : Da}, Rps K F vs ds → Rp K F v d → Rps K F (vs ++ [v]) (ds ++ [d])
  | _, _, _, _, .nil, r => .cons r .nil
  | _, _, _, _, .cons a t, r => .cons a (Rps.app2 t r)
theorem Rps.rev {K : Fg} {F : Hp} : ∀ {vs : List V} {ds : List Da}, Rps K F vs ds → Rps K F vs.reverse ds.reverse
  | _, _, .nil => .nil
  | _, _, .cons a t => by
    rw [List.reverse_cons, List.reverse_cons]
    exact Rps.app2 (Rps.rev t) a
structure Tri (x y z : Int) : Prop where
  x0 : 0 ≤ x
  y0 : 0 ≤ y
  z0 : 0 ≤ z
  ev : (x + y + z) % 2 = 0
  a : x ≤ y + z
  b : y ≤ x + z
  c : z ≤ x + y
theorem Tri.add {x y z x' y' z' : Int} (h : Tri x y z) (h' : Tri x' y' z') : Tri (x + x') (y + y') (z + z') := by
  obtain ⟨a1, a2, a3, a4, a5, a6, a7⟩ := h
  obtain ⟨b1, b2, b3, b4, b5, b6, b7⟩ := h'
  exact ⟨by omega, by omega, by omega, by omega, by omega, by omega, by omega⟩
theorem Tri.one {p q r : Bool} (h : r = (p != q)) : Tri (if p = true then 1 else 0) (if q = true then 1 else 0) (if r = true then 1 else 0) := by
  subst h
  cases p <;> cases q <;> exact ⟨by decide, by decide, by decide, by decide, by decide, by decide, by decide⟩
end Z
namespace Z
open L2 PySem PySem.Spec PyProof.Rows
open Evl (Ex ex_l ex_t ex_rd fresh_back)
variable {Wx : WX}
theorem NewL.grow {K : Fg} {c : Con} {g : Gs} {σ : L2.St} {H F : Hp} {a p : Addr} {v : V} {ds : List Da} {ot : HO} (h : NewL K c g σ H F a v ds) (e : Ex F H) (hp : H p = none) : NewL K c g σ (upd H p ot) (upd F p ot) a v ds := by
  obtain ⟨o, xs, rfl, q2, q3, q4, q5, q6, q7⟩ := h.ex
  have ne : o ≠ p := fun z => by rw [z, hp] at q4; cases q4
  exact ⟨o, xs, rfl, by rw [upd_ne ne]; exact q2, q3, by rw [upd_ne ne]; exact q4, q5.up (Gr.new e hp).f, q6, q7⟩
end Z
namespace LZN
open PySem
open PySem.Sem (wp)
/-- a zip ahead of an item: fresh, or its first tuple still held -/
def ZSt (h : Heap) (q TI TO u1 u2 S : Addr) : Prop := IsZip h q TI TO .none ∨ ∃ (T : Addr) (f : Bool) (oT : Obj), IsZipHeld h q TI TO T f ∧ h.get? T = some oT ∧ T ≠ q ∧ T ≠ u1 ∧ T ≠ u2 ∧ T ≠ S
structure Run (h : Heap) (q TI TO u1 u2 l1 l2 S : Addr) (xs ys : Array Value) (k : Nat) : Prop where
  D : ZipApart q TI TO u1 u2 l1 l2
  z : ZSt h q TI TO u1 u2 S
  o : ∃ a b, IsPair h TO a b
  i : IsPair h TI (.ref u1) (.ref u2)
  g1 : h.IsListIter u1 l1 k
  g2 : h.IsListIter u2 l2 k
  m1 : h.IsList l1 xs
  m2 : h.IsList l2 ys
structure Off (S q TI TO u1 u2 l1 l2 : Addr) : Prop where
  q : S ≠ q
  TI : S ≠ TI
  TO : S ≠ TO
  u1 : S ≠ u1
  u2 : S ≠ u2
  l1 : S ≠ l1
  l2 : S ≠ l2
section
variable {h h' : Heap} {q TI TO u1 u2 l1 l2 S : Addr} {xs ys : Array Value} {k : Nat}
theorem Run.keep (R : Run h q TI TO u1 u2 l1 l2 S xs ys k) (o : Off S q TI TO u1 u2 l1 l2) (hk : ∀ c ob, c ≠ S → h.get? c = some ob → h'.get? c = some ob) : Run h' q TI TO u1 u2 l1 l2 S xs ys k := by
  obtain ⟨a, b, z2⟩ := R.o
  refine ⟨R.D, ?_, ⟨a, b, hk _ _ o.TO.symm z2⟩, hk _ _ o.TI.symm R.i, R.g1.at fun ob e => hk _ ob o.u1.symm e, R.g2.at fun ob e => hk _ ob o.u2.symm e, R.m1.at fun ob e => hk _ ob o.l1.symm e, R.m2.at fun ob e => hk _ ob o.l2.symm e⟩
  rcases R.z with z1 | ⟨T, f, oT, z1, z2, n1, n2, n3, n4⟩
  · exact .inl (hk _ _ o.q.symm z1)
  · exact .inr ⟨T, f, oT, hk _ _ o.q.symm z1, hk _ _ n4 z2, n1, n2, n3, n4⟩
end
end LZN
namespace Z
open L2 PySem PySem.Spec PyProof.Rows
open Evl (Ex ex_l ex_t ex_rd fresh_back)
end Z
namespace L2
open PySem PySem.Spec PyProof.Rows
end L2
namespace Z
open L2 PySem PySem.Spec PyProof.Rows
open Evl (Ex ex_l ex_t ex_rd fresh_back)
end Z
namespace Z
open L2 PySem PySem.Spec PyProof.Rows
end Z
namespace Z
open L2 PySem PySem.Spec PyProof.Rows
end Z
namespace Z
open L2 PySem PySem.Spec PyProof.Rows
open Evl (Ex ex_l ex_t ex_rd fresh_back)
def fMulT : BinF := fun d e post => match d, e with
  | .tuple ds, .int i => 2 ≤ i ∧ i ≤ 1000 ∧ ds ≠ [] ∧ ds.length ≤ 1000 ∧ post (.tuple (repD ds i.toNat))
  | _, _ => False
section
variable {X : Cx} {a b : Expr} {ta tb : DE} {pos : Pos}
theorem ok_mulT {K : Fg} : BinOk K (rRepT K) fMulT := fun F H x y d e post Q hx r1 r2 hf k => by
  cases d with
  | tuple ds =>
    cases e with
    | int i =>
      obtain ⟨h0, h1, h2, h3, h4⟩ := hf
      cases r1 with
      | tup sq m =>
        rename_i aa xs
        cases r2
        refine ⟨_, i, xs, rfl, rfl, ex_t hx sq, fun z => ?_, h0, h1, by rw [m.len]; exact h3, fun p hp => ?_⟩
        · subst z
          have := m.len
          rw [List.length_nil] at this
          exact h2 (List.eq_nil_of_length_eq_zero this.symm)
        · have gr := Gr.new (o := .tup ((List.replicate i.toNat xs).flatten)) hx hp
          exact k _ _ _ _ h4 gr (.tup (.inl (.inl upd_same)) ((rps_rep m _).up gr.f))
    | _ => exact hf.elim
  | _ => exact hf.elim
theorem e_mulT (ha : PE X a (up X.K ta)) (hb : PE X b (up X.K tb)) : PE X (.BinOp a .Mult b pos) (up X.K (dBin fMulT ta tb)) := e_bin op_repT ok_mulT ha hb
end
end Z
namespace Z
open L2 PySem PySem.Spec PyProof.Rows
open Evl (Ex ex_l ex_t ex_rd fresh_back)
end Z
namespace Z
open L2 PySem PySem.Spec PyProof.Rows
open Evl (Ex ex_l ex_t ex_rd fresh_back)
variable {Wx : WX}
def tFmtX (K : Fg) (te : TE) : TE := fun σ H Q => te σ H fun x H1 => ∃ d F, Ex F H1 ∧ Rp K F x d ∧ ShX d ∧ Q (.str d.shown) H1
section
variable {X : Cx} {e : Expr} {te : TE} {pos : Pos}
theorem pe_fmtX (hu : X.A.units + 64 < cLine) (hg : X.A.guards = some []) (he : PE X e te) : PE X (.FormattedValue e 114 none pos) (tFmtX X.K te) := by
  refine ⟨fun pins s σ H Q I h => ?_⟩
  refine wpAny_FormattedValue_repr (thn (he.run pins s σ H _ I h) fun v s1 hv => ?_)
  obtain ⟨x, H1, I1, r1, d, F, ef, hd, hs, q⟩ := hv
  have hz := hs.len
  have fin : ∀ {s2 : Shared} {tk : Tok}, Inv X pins σ H1 s2 → wpAny (model X.prog X.w) X.A (formatField (.str d.shown tk) Str.empty) (EP X pins σ Q) X.xe s2 := fun {s2 tk} I2 =>
    wpAny_formatField_str ⟨.str d.shown, H1, I2, ⟨_, rfl⟩, q⟩ ⟨.str d.shown, H1, I2.tok _, ⟨_, rfl⟩, q⟩ hz
  have key : ∀ a, v = .ref a → wpAny (model X.prog X.w) X.A (pyReprObj v) (fun r s₂ => wpAny (model X.prog X.w) X.A (formatField r Str.empty) (EP X pins σ Q) X.xe s₂) X.xe s1 := fun a e => by
    subst e
    obtain ⟨T, idr, S⟩ := shows_x I1 ef hd r1 hs.sh hz
    exact wpAny_pyReprObj_slot (by omega) (S.typeIs s1 fun _ _ e => e) S.slotRepr (S.call X.A X.xe s1 _ hg (by have := hs.dp; omega) (fun _ _ e => e) fun h' u tk hk => ⟨_, _, rfl, fin (I1.kept hk)⟩)
  cases hd with
  | non => cases r1; exact pyReprObj_none (fin (I1.tok _))
  | bl b => cases r1; cases b <;> exact pyReprObj_bool (fin (I1.tok _))
  | int i =>
    obtain ⟨t, rfl⟩ := r1
    exact pyReprObj_int (of_decide_eq_true (show decide (i.natAbs.log2 < 1920) = true from hs.sh)) (fin (I1.tok _))
  | str z =>
    obtain ⟨t, rfl⟩ := r1
    exact pyReprObj_str (fin (I1.tok _)) hz
  | lst sq ha => exact key _ (by cases r1; rfl)
  | tup sq ha => exact key _ (by cases r1; rfl)
  | dct sq ha => exact key _ (by cases r1; rfl)
end
/-- what is read off the base's class -/
structure BaseC (K : Fg) (R : Addr) : Prop where
  ga : PySem.W.specialIn K (.ref R) "__getattribute__" = some (some (.builtin "type.__getattribute__"))
  rd : PySem.W.readsIn K R (.type "type") = true
  at_ : PySem.W.findCls K (.ref R) (.type "type") "__init__" = some (.val (.builtin "ValueError.__init__"))
section
variable {X : Cx} {e : Expr} {es : List Expr} {ta : TA} {x : Str} {R : Addr} {p1 p2 pos : Pos}
theorem pe_baseinit {pl : Sem Bool} (B : BaseC X.K R) (hg : Gl X x) (hm : X.mg x = some (.ref R)) (ha : PA X (e :: es) ta) (hdb : (x == ("__debug__" : Str)) = false := by decide)
    (hc : eval (.Call (.Attribute (.Name x p1) "__init__" p2) (e :: es) [] pos) X.env = (do
      let ov ← eval (.Name x p1) X.env
      standAt p2.atName
      let (f, first) ← holding [ov] (getMethod ov "__init__" pl)
      callWith pos f first (backTo pos (starEach (e :: es) X.env)) (backToKw pos (keywordEach [] X.env))) := by rfl)
    (he : starEach (e :: es) X.env = (false, eval e X.env) :: starEach es X.env := by rfl) (hpl : (backTo pos (starEach es X.env)).any (·.1) = false := by rfl) :
    PE X (.Call (.Attribute (.Name x p1) "__init__" p2) (e :: es) [] pos) (tVeI X.K ta) := by
  refine ⟨fun pins s σ H Q I h => ?_⟩
  refine PySem.W.methodCall_KW (ld_glob I hg hm ?_ hdb) hc
  refine PySem.W.method_cls I.kIn B.ga ?_
  refine PySem.W.cls_value I.kIn B.rd B.at_ (by decide +kernel) ?_
  show wpAny _ _ (callWith pos (Value.builtin "ValueError.__init__") [] (backTo pos (starEach (e :: es) X.env)) []) _ _ _
  refine PyProof.Rows.callWith_method1 (thn (ha.run pos pins _ σ H _ (I.tok _) h) fun us s1 ⟨vs, H1, I1, r1, a, C, ws, ev, hl, T, ea, q⟩ => ?_) he hpl
  subst ev
  cases r1 with
  | @cons _ u0 _ ur ra rw' =>
    obtain rfl : u0 = Value.ref a := ra
    have hlen : ur.length ≤ sizeLine := by
      rw [← Paired.length rw', sizeLine_eq]
      omega
    exact oinit_ok T I1 ea hlen fun s' J => ⟨.non, H1, J, rfl, q⟩
end
def spXi (K : Fg) : Sp := fun vs H Q _ => ∃ (a C : Addr) (v : V) (F : Hp) (d : Da), vs = [.ref a, v] ∧ OexC K C ∧ PySem.W.findIn K (.ref C) "value" = some none ∧ H a = some (exo a C none) ∧ Ex F H ∧ Rp K F v d ∧ ShX d ∧
  ∀ dx, H dx = none → dx ≠ a → Q .non (upd (upd H dx (exd dx [("value", v)])) a (exo a C (some dx)))
theorem spXi_len {K : Fg} (vs : List V) (H : Hp) (Q : VK) (E : XK) (h : spXi K vs H Q E) : vs.length = 2 := by
  obtain ⟨a, C, v, F, d, rfl, _⟩ := h
  rfl
def tXi (K : Fg) : TS := fun D σ H => ∃ (a C : Addr) (v : V) (F : Hp) (d : Da), σ[0]? = some (some (.ref a)) ∧ σ[1]? = some (some v) ∧ OexC K C ∧ PySem.W.findIn K (.ref C) "value" = some none ∧ H a = some (exo a C none) ∧ Ex F H ∧ Rp K F v d ∧ ShX d ∧
  ∀ dx, H dx = none → dx ≠ a → D.nx σ (upd (upd H dx (exd dx [("value", v)])) a (exo a C (some dx)))
section
variable {X : Cx} {x sfx : Str} {R : Addr} {j : Option Str} {p1 p2 p3 p4 p5 p6 p7 p8 p9 p10 p11 p12 p13 : Pos}
theorem pss_xinit (B : BaseC X.K R) (hg : Gl X x) (hm : X.mg x = some (.ref R)) (hu : X.A.units + 64 < cLine) (hgd : X.A.guards = some []) (hz : sfx.length ≤ 500) (pv0 : PE X (.Name "self" p3) (tVar 0)) (pv1 : PE X (.Name "value" p4) (tVar 1)) (pv0' : PE X (.Name "self" p9) (tVar 0)) (pv1' : PE X (.Name "value" p10) (tVar 1))
    {jj : _} (hdb : (x == ("__debug__" : Str)) = false := by decide)
    {pl : Sem Bool}
    (hc : eval (.Call (.Attribute (.Name x p1) "__init__" p2) [.Name "self" p3, .JoinedStr [.FormattedValue (.Name "value" p4) 114 none p5, .Constant (.str sfx) jj p6] p7] [] p8) X.env = (do
      let ov ← eval (.Name x p1) X.env
      standAt p2.atName
      let (f, first) ← holding [ov] (getMethod ov "__init__" pl)
      callWith p8 f first (backTo p8 (starEach [.Name "self" p3, .JoinedStr [.FormattedValue (.Name "value" p4) 114 none p5, .Constant (.str sfx) jj p6] p7] X.env)) (backToKw p8 (keywordEach [] X.env))) := by rfl) :
    PSs X [.Expr (.Call (.Attribute (.Name x p1) "__init__" p2) [.Name "self" p3, .JoinedStr [.FormattedValue (.Name "value" p4) 114 none p5, .Constant (.str sfx) jj p6] p7] [] p8) p11, .Assign [.Attribute (.Name "self" p9) "value" p12] (.Name "value" p10) p13]
      (tXi X.K) := by
  have e1 : PE X (.JoinedStr [.FormattedValue (.Name "value" p4) 114 none p5, .Constant (.str sfx) jj p6] p7) _ := pe_joined (.cons (pe_fmtX hu hgd pv1) (.cons pe_str .nil))
  refine pss_to (pss_cons (ps_expr (pe_baseinit B hg hm (pa_cons pv0 (pa_cons e1 pa_nil)) hdb hc)) (pss_one (ps_ost pv0' pv1'))) fun D σ H q => ?_
  obtain ⟨a, C, v, F, d, h0, h1, T, hno, ha, ef, rd, hs, hq⟩ := q
  have hl := szX_ok d hs.lay hs.sh
  have hl2 := hs.sz
  have sl := sizeLine_eq
  have l1 : (Str.empty ++ d.shown).length ≤ sizeLine := by
    rw [strLen_append]
    show 0 + _ ≤ _
    omega
  have l2 : (Str.empty ++ d.shown ++ sfx).length ≤ sizeLine := by
    rw [strLen_append, strLen_append]
    show 0 + _ + _ ≤ _
    omega
  exact ⟨_, h0, v, h1, d, F, ef, rd, hs, d.shown, rfl, l1, sfx, rfl, l2, a, C, [.str (Str.empty ++ d.shown ++ sfx)], rfl, (by show 1 ≤ 1000; omega), T, ha, v, h1, _, h0, a, C, rfl, T, hno, .inl ⟨ha, hq⟩⟩
end
section
variable {P : Program} {w : World} {K : Fg} {mg : Str → Option Value} {base : Heap} {CX : CXT}
theorem fn_xinit {x qual sfx : Str} {st : Stmt} {f R : Addr} {fd : FuncData} {p1 p2 p3 p4 p5 p6 p7 p8 p9 p10 p11 p12 p13 : Pos} {jj : _} (Fu : Fun K x qual st f fd) (S : FnScope ["self", "value"] ["self", "value"] (defScope st)) (B : BaseC K R) (gR : mg "RoundingError" = some (.ref R)) (hz : sfx.length ≤ 500)
    (hb : defBody st = [.Expr (.Call (.Attribute (.Name "RoundingError" p1) "__init__" p2) [.Name "self" p3, .JoinedStr [.FormattedValue (.Name "value" p4) 114 none p5, .Constant (.str sfx) jj p6] p7] [] p8) p11, .Assign [.Attribute (.Name "self" p9) "value" p12] (.Name "value" p10) p13])
    (h0 : (defScope st).names.lookup ("self" : Str) = some .local) (h1 : (defScope st).names.lookup ("value" : Str) = some .local) (hl : (defScope st).names.lookup ("RoundingError" : Str) = some .globalImplicit)
    (hc : ∀ env : Env, ∃ pl : Sem Bool, eval (.Call (.Attribute (.Name "RoundingError" p1) "__init__" p2) [.Name "self" p3, .JoinedStr [.FormattedValue (.Name "value" p4) 114 none p5, .Constant (.str sfx) jj p6] p7] [] p8) env = (do
      let ov ← eval (.Name "RoundingError" p1) env
      standAt p2.atName
      let (f, first) ← holding [ov] (getMethod ov "__init__" pl)
      callWith p8 f first (backTo p8 (starEach [.Name "self" p3, .JoinedStr [.FormattedValue (.Name "value" p4) 114 none p5, .Constant (.str sfx) jj p6] p7] env)) (backToKw p8 (keywordEach [] env)))) : Fn P w K mg base CX0 2 f fd ["self", "value"] (spXi K) := by
  refine fn_by Fu S spXi_len fun cdv A outer s H vs Q E hr hg h => ⟨tXi K, ?_, ?_⟩
  · obtain ⟨pl, hc⟩ := hc (envOfC qual (defScope st) s.heap.objs.size f cdv)
    rw [hb]
    exact pss_xinit (X := cxOf CX0 P w K mg base ["self", "value"] qual (defScope st) f cdv A outer s H E) B hl gR hr.units hg hz (pe_var rfl (.inl h0)) (pe_var rfl (.inl h1)) (pe_var rfl (.inl h0)) (pe_var rfl (.inl h1)) (by decide) hc
  · obtain ⟨a, C, v, F, d, rfl, T, hno, ha, ef, rd, hs, q⟩ := h
    exact ⟨a, C, v, F, d, rfl, rfl, T, hno, ha, ef, rd, hs, q⟩
end
section
variable {X : Cx} {e : Expr} {es : List Expr} {ta : TA} {p pos : Pos}
theorem pmk_oexF {CX : CXT} {x : Str} {C fI : Addr} {k : Nat} {fd : FuncData} {ps : List Str} {sp : Sp} (T : OexC X.K C) (iC : PySem.W.findIn X.K (.ref C) "__init__" = some (some (.ref fI))) (tI : PySem.W.typeIn X.K (.ref fI) = some (.type "function"))
    (F1 : Fn X.prog X.w X.K X.mg X.base CX k fI fd ps sp) (hr : Room (k + 1) X.A) (hgd : X.A.guards = some []) (hb : Binds X.K fd ps []) (hx : Passes CX X (fun _ _ _ => False)) (hg : Gl X x) (hm : X.mg x = some (.ref C)) (ha : PA X (e :: es) ta)
    (hdb : (x == ("__debug__" : Str)) = false := by decide) (he : starEach (e :: es) X.env = (false, eval e X.env) :: starEach es X.env := by rfl) (hpl : (backTo pos (starEach es X.env)).any (·.1) = false := by rfl) :
    PMk X (.Call (.Name x p) (e :: es) [] pos) (tMkO C sp [] ta) := by
  intro pins s σ H Q I h
  obtain ⟨nm, q, N, bs, bm, sn, sub, ab, col, dd, k0, k1, k2, k3, k5, hC, hbm⟩ := T.cls
  refine wpAny_Call_Name_kw (ld_glob I hg hm ?_ hdb)
  refine PySem.W.callWith_K (h₀ := X.base) I.ok.mod.kin T.kC (thn (ha.run pos pins s σ H _ I h) fun us s1 ⟨vs, H1, I1, r1, hz, q1⟩ => ⟨I1.kIn, ?_⟩) he hpl
  show wpAny _ _ (call (.ref C) us) _ _ _
  obtain ⟨hp, g, dr, tk, os⟩ := s1
  have hsz : hp.objs.size ≤ hp.objs.size + 1 := Nat.le_succ _
  have hn : H1 (hp.objs.size + 1) = none := I1.hok.fresh hsz
  have hq := q1 (hp.objs.size + 1) hn
  rw [List.append_nil] at hq
  have kk : ∀ b o, hp.get? b = some o → ((hp.push (PySem.W.kdv_tup us)).push (PySem.HandSPX.excO C hp.objs.size)).get? b = some o := fun b o e => Heap.get?_push_of_some _ (Heap.get?_push_of_some _ e)
  have hget : ((hp.push (PySem.W.kdv_tup us)).push (PySem.HandSPX.excO C hp.objs.size)).get? (hp.objs.size + 1) = some (PySem.HandSPX.excO C hp.objs.size) := by heap_get
  have I2 : Inv X pins σ (upd H1 (hp.objs.size + 1) (exo (hp.objs.size + 1) C none)) ⟨(hp.push (PySem.W.kdv_tup us)).push (PySem.HandSPX.excO C hp.objs.size), g, dr, tk, os⟩ :=
    I1.laid (t' := tk) (a := hp.objs.size + 1) (o := exo (hp.objs.size + 1) C none) (h' := (hp.push (PySem.W.kdv_tup us)).push (PySem.HandSPX.excO C hp.objs.size)) kk hsz (exo_ok hget)
  have r2 : Vals (V.ref (hp.objs.size + 1) :: vs) (Value.ref (hp.objs.size + 1) :: us) := .cons rfl r1
  have hl : (Value.ref (hp.objs.size + 1) :: us).length = ps.length := by
    have e := r2.length
    rw [F1.len _ _ _ _ hq] at e
    exact e.symm
  have hus : us.length ≤ sizeLine := by
    rw [← Paired.length r1, sizeLine_eq]
    omega
  have hb' := hb _ (Value.ref (hp.objs.size + 1) :: us) I2.kIn (by rw [List.append_nil]; exact hl)
  rw [List.append_nil] at hb'
  refine wpAny_call (PySem.HandSPX.call_own F.excBase_ValueError (fun Y => PySem.HandSPX.refsVE_contains Y bm hbm) (I1.kIn _ _ hC) (PySem.W.looks_findIn I1.kIn iC) (fun self => PySem.W.bind_fn I1.kIn self tI) hus
    (codeAny_mono (F1.run _ X.stack _ _ ⟨Value.ref (hp.objs.size + 1) :: us, []⟩ (Value.ref (hp.objs.size + 1) :: us) _ _ (fun _ _ _ => False) (hr.make C us []) hgd (I2.env0.make C us []) hb' r2 hq) fun r s' hq' => ?_))
  cases r with
  | error er => exact hx pins σ _ _ er s' I2 hq'
  | ok fl =>
    cases fl with
    | ret u =>
      obtain ⟨v, H2, os2, bare2, un2, hok2, rv, ev, d, fs, ea, ed, hd1, q2⟩ := hq'
      subst ev
      obtain ⟨h2, g2, d2, t2, os'⟩ := s'
      exact ⟨rv, mk_end (raises_own T.exC T.tyC) I1 hsz kk un2 hok2 os2 bare2 ea ed hd1 q2⟩
    | next => exact False.elim hq'
    | brk => exact False.elim hq'
    | cont => exact False.elim hq'
end
/-- what the text must have for an own exception with a field value -/
structure XcV (K : Fg) (nm : Str) (C fI : Addr) : Prop where
  oex : OexC K C
  ns : PySem.W.nsIn K mainGlobals nm = some (some (.ref C))
  ini : PySem.W.findIn K (.ref C) "__init__" = some (some (.ref fI))
  fn : PySem.W.typeIn K (.ref fI) = some (.type "function")
  nov : PySem.W.findIn K (.ref C) "value" = some none
def dRaise (nm : Str) (te : DE) : DS := fun d g => te g fun r g1 => match r with
  | .val z => ShX z ∧ d.rt (.exc nm (some z)) g1
  | _ => False
def dRaise0 (nm : Str) : DS := fun d g => d.rt (.exc nm none) g
section
variable {X : Cx} {e : Expr} {te : DE} {nm : Str} {C fI : Addr} {k : Nat} {fd : FuncData} {p pos pos2 : Pos}
theorem s_raise (hc : X.calm = true) (tk : Takes X Wx) (T : XcV X.K nm C fI) (F1 : Fn X.prog X.w X.K X.mg X.base CX0 k fI fd ["self", "value"] (spXi X.K)) (hr : Room (k + 1) X.A) (hgd : X.A.guards = some []) (hb : Binds X.K fd ["self", "value"] []) (hg : Gl X nm) (hm : X.mg nm = some (.ref C)) (ha : PE X e (up X.K te))
    (hdb : (nm == ("__debug__" : Str)) = false := by decide) (he : starEach [e] X.env = (false, eval e X.env) :: starEach [] X.env := by rfl) : PS X (.Raise (some (.Call (.Name nm p) [e] [] pos)) none pos2) (upS X.K Wx (dRaise nm te)) :=
  ps_to (ps_raise hc tk (pmk_oexF T.oex T.ini T.fn F1 hr hgd hb pass0 hg hm (pa_cons ha pa_nil he) hdb he rfl)) fun D σ H q => by
  obtain ⟨c, g, tv, tr, F, a, d, s, hn, t, kk⟩ := q
  refine ⟨c, g, tv, tr, F, a, _, s, t, fun r g1 v H1 F1 a1 t1 s1 => ?_⟩
  cases r with
  | val z =>
    refine ⟨by show 1 ≤ 1000; omega, fun x hx => ?_⟩
    have rz : Rp X.K F1 v z := s1.top
    have ef : Ex F1 (upd H1 x (exo x C none)) := s1.eh.trans (Ex.new hx)
    refine ⟨x, C, v, F1, z, rfl, T.oex, T.nov, upd_same, ef, rz, t1.1, fun dx hdx ne => ⟨rfl, dx, [("value", v)], upd_same, ?_, ?_, ?_⟩⟩
    · rw [upd_ne ne, upd_same]
    · rw [upd_ne ne] at hdx; exact hdx
    · rw [upd_ne ne] at hdx
      have eq : upd (del (upd (upd (upd H1 x (exo x C none)) dx (exd dx [("value", v)])) x (exo x C (some dx))) x) dx (.xd [("value", v)]) = upd H1 dx (.xd [("value", v)]) := by
        funext b
        by_cases hb : b = dx
        · rw [hb, upd_same, upd_same]
        · rw [upd_ne hb, upd_ne hb]
          by_cases hbx : b = x
          · rw [hbx, del_same, hx]
          · rw [del_ne hbx, upd_ne hbx, upd_ne hb, upd_ne hbx]
      rw [eq]
      have gr := Gr.new (o := .xd [("value", v)]) s1.eh hdx
      exact kk.rx nm (some z) g1 σ _ _ a1 _ _ t1.2 (s1.pop1.grow gr) ⟨C, dx, v, rfl, T.ns, rfl, upd_same, rz.up gr.f⟩
  | _ => exact t1.elim
/-- not reached -/
def dStop : DS := fun _ _ => False
theorem ss_stop {ss : List Stmt} : PSs X ss (upS X.K Wx dStop) := ⟨fun pins s σ H D I q => by
  obtain ⟨c, g, tv, tr, F, a, d, s, hn, t, k⟩ := q
  exact t.elim⟩
end
end Z
namespace Z
open L2 PySem PySem.Spec PyProof.Rows
open Evl (Ex ex_l ex_t ex_rd fresh_back)
theorem exT_ok {P : Program} {w : World} {H : Hp} {h : Heap} {a : Addr} {cls : Value} {d : Option Addr} {oe : Obj} {vs : Array Value} (he : h.get? a = some oe) (hz : Zc cls d oe) (hd : oe.data = .fields vs) : ObjOk P w H h a (exT a cls d) :=
  ⟨⟨oe, vs, he, hz, hd⟩, ⟨_, he⟩, fun h1 h2 z k => by
    obtain ⟨o, vs, q, r⟩ := z
    exact ⟨o, vs, k _ q, r⟩⟩
theorem exT_at {P : Program} {w : World} {H : Hp} {h : Heap} {a : Addr} {cls : Value} {d : Option Addr} (hok : HOk P w H h) (he : H a = some (exT a cls d)) : ∃ (oe : Obj) (vs : Array Value), h.get? a = some oe ∧ Zc cls d oe ∧ oe.data = .fields vs := by
  have x : ObjOk P w H h a (.ext fun h => ∃ (oe : Obj) (vs : Array Value), h.get? a = some oe ∧ Zc cls d oe ∧ oe.data = .fields vs) := hok a _ he
  exact x.1
section
variable {X : Cx} {pins : List (Addr × Obj)} {σ : L2.St} {H : Hp} {s : Shared} {a : Addr} {cls : Value} {d : Option Addr} {oe : Obj} {vs : Array Value}
theorem inv_track (I : Inv X pins σ H s) (ha : s.heap.get? a = some oe) (hz : Zc cls d oe) (hd : oe.data = .fields vs) (na : H a = none) (nL : a ≠ X.env.locals) (n0 : ∀ o, X.s_0.heap.get? a = some o → X.H_0 a ≠ none) (np : ∀ p ∈ X.pn ++ pins, p.1 ≠ a) :
    Inv X pins σ (upd H a (exT a cls d)) s := by
  refine ⟨I.ok, I.os, I.bare, ⟨I.base.keep, I.base.slot, fun b o e n hx => ?_, I.base.there, fun b xs q => ?_, fun b o xs q => ?_, fun b ps q => ?_⟩, I.loc, I.cell, ?_, fun y c e => ?_, fun p hp => ?_, fun b o q => ?_, I.len⟩
  · by_cases hb : b = a
    · subst hb
      exact absurd n (n0 o e)
    · rw [upd_ne hb]; exact I.base.free b o e n hx
  · have z := I.base.tups b xs q
    rw [upd_ne (fun e => by rw [e, na] at z; cases z)]; exact z
  · have z := I.base.frzs b o xs q
    rw [upd_ne (fun e => by rw [e, na] at z; cases z)]; exact z
  · obtain ⟨more, z⟩ := I.base.tbls b ps q
    exact ⟨more, by rw [upd_ne (fun e => by rw [e, na] at z; cases z)]; exact z⟩
  · rw [upd_ne (Ne.symm nL)]; exact I.free
  · rw [upd_ne ?_]
    · exact I.freeC y c e
    · intro hc
      obtain ⟨w', z⟩ := I.cell y c e
      obtain ⟨o, h1, h2⟩ := z
      subst hc
      rw [ha] at h1
      cases h1
      rw [hd] at h2
      cases h2
  · obtain ⟨q1, q2, q3⟩ := I.pin p hp
    exact ⟨q1, by rw [upd_ne (np p hp)]; exact q2, q3⟩
  · by_cases hb : b = a
    · subst hb
      rw [upd_same] at q
      cases q
      exact exT_ok ha hz hd
    · rw [upd_ne hb] at q
      exact (I.hok b o q).stay (fun c v hc z => z) (fun c hc => by rw [upd_ne (fun e => by rw [e, na] at hc; cases hc)]; exact hc) (fun c xs hc => by rw [upd_ne (fun e => by rw [e, na] at hc; cases hc)]; exact hc)
theorem inv_suite (I : Inv X pins σ H s) (a : Addr) : Inv (X.suite a (X.pn ++ pins)) [] σ H s :=
  ⟨I.ok.suite _ _, I.os, I.bare, I.base, I.loc, I.cell, I.free, I.freeC, fun p hp => I.pin p (by rw [List.append_nil] at hp; exact hp), I.hok, I.len⟩
theorem inv_unsuite {pn' : List (Addr × Obj)} (I : Inv (X.suite a (X.pn ++ pins)) pn' σ H s) (ok : X.Ok) : Inv X pins σ H s :=
  ⟨ok, I.os, I.bare, I.base, I.loc, I.cell, I.free, I.freeC, fun p hp => I.pin p (List.mem_append_left _ hp), I.hok, I.len⟩
end
/-- the ends of a suite whose clause names slot i -/
def endsAs (D : Ends) : Option Nat → Ends
  | none => D
  | some i => { nx := fun σ' H' => D.nx (σ'.set i none) H', rt := D.rt, bk := fun σ' H' => D.bk (σ'.set i none) H', ct := fun σ' H' => D.ct (σ'.set i none) H' }
def slotAs (σ : L2.St) (a : Addr) : Option Nat → L2.St
  | none => σ
  | some i => σ.set i (some (.ref a))
/-- what the clauses wish of an exception of the body, one after the other -/
def wT (K : Fg) (Wout : WX) (D : Ends) : List (Value × Option Nat × TS) → WX
  | [] => Wout
  | (c, i, ts) :: r => fun cls d σ H => ∃ b, PySem.W.exmOne K cls c = some b ∧ (b = true → ∀ a, H a = none → ts (endsAs D i) (slotAs σ a i) (upd H a (exT a cls d))) ∧ (b = false → wT K Wout D r cls d σ H)
inductive HdT (X : Cx) : List ExceptHandler → List (Value × Option Nat × TS) → Prop
  | nil : HdT X [] []
  | no {x : Str} {c : Value} {ts : TS} {b₀ : Stmt} {suite : List Stmt} {np pos' : Pos} {hds : List ExceptHandler} {l : List (Value × Option Nat × TS)} (hc : Names X x c)
      (hsu : ∀ (a : Addr) (pn : List (Addr × Obj)), PSs (X.suite a pn) (b₀ :: suite) ts) (r : HdT X hds l) :
      HdT X (.ExceptHandler (some (.Name x np)) none (b₀ :: suite) pos' :: hds) ((c, none, ts) :: l)
  | as {x n : Str} {c : Value} {i : Nat} {ts : TS} {b₀ : Stmt} {suite : List Stmt} {np pos' : Pos} {hds : List ExceptHandler} {l : List (Value × Option Nat × TS)} (hc : Names X x c) (hi : X.N[i]? = some n) (hln : X.env.kindOf n = some .local)
      (hsu : ∀ (a : Addr) (pn : List (Addr × Obj)), PSs (X.suite a pn) (b₀ :: suite) ts) (r : HdT X hds l) :
      HdT X (.ExceptHandler (some (.Name x np)) (some n) (b₀ :: suite) pos' :: hds) ((c, some i, ts) :: l)
section
variable {X : Cx} {body : List Stmt} {h₀ : ExceptHandler} {hds : List ExceptHandler} {l : List (Value × Option Nat × TS)} {pos : Pos} {tb : WX → TS} {Wout : WX}
theorem ps_tryT (hs : X.stack = X.env :: X.outer) (hf : X.env.frame = some X.env.locals) (hex : X.ex = []) (hN : X.N.Nodup) (tk : Takes X Wout)
    (hb : ∀ (W : WX) (pn : List (Addr × Obj)) (xe : Value → Shared → Prop), Takes (X.tr pn xe) W → PassesOwn (model X.prog X.w) X.A X.env xe → PSs (X.tr pn xe) body (tb W))
    (hh : HdT X (h₀ :: hds) l) : PS X (.Try body (h₀ :: hds) [] [] pos) (fun D σ H => tb (wT X.K Wout D l) D σ H) := by
  refine ⟨fun pins s σ H D I h => ?_⟩
  have ok := I.ok
  have hfr : X.A.frames = some (X.env :: X.outer) := by rw [ok.frames, hs]
  refine wpAny_Try_except ?_
  refine wpAny_mono ((hb (wT X.K Wout D l) (X.pn ++ pins) (fun e s₁ => wpAny (model X.prog X.w) X.A (noteFrame e X.env) (fun _ s₂ => wpAny (model X.prog X.w) X.A (setFlight e none) (fun _ s₃ =>
    wpAny (model X.prog X.w) X.A (handleBy e X.env (h₀ :: hds)) (SP X pins D) X.xe s₃) X.xe s₂) X.xe s₁) (fun u s' xx => ?_) PassesOwn.looking).run [] s σ H D (I.toTry _) h) (fun f s1 hsp => ?_) (fun e s1 he => he)
  · -- the catch
    obtain ⟨a, B, sI, pins', σ', H', cls, d, rfl, J', nb, up, sky, na, os, ag, w⟩ := xx
    have J : Inv X pins σ' H' sI := J'.ofTry ok
    have sky' : Sky B (X.env :: X.outer) a (Zc cls d) X.env.locals s'.heap := by rw [← hs]; exact sky
    show wpAny (model X.prog X.w) X.A (noteFrame (.ref a) X.env) _ _ _
    refine Sky.land Zc.steady hfr hf sky' fun h3 fl3 up3 => ?_
    have J3 : Inv X pins σ' H' { s' with heap := h3 } := J.landed nb fl3.1 (up.trans up3) os ag
    obtain ⟨oe3, vs3, he3, hz3, hd3⟩ := fl3.there
    have notFr : ∀ {h : Heap} {o : Obj} {vs : Array Value}, h.FunFrames B (X.env :: X.outer) → h.get? a = some o → o.data = .fields vs → a ∉ frs (X.env :: X.outer) := fun {h o vs} ff e dd hm => by
      obtain ⟨_, o', e', hnf⟩ := ff.mem hm
      rw [e] at e'; cases e'
      exact hnf _ dd
    have nfr := notFr fl3.2.2.1 he3 hd3
    have nL : a ≠ X.env.locals := fun z => nfr (List.mem_filterMap.mpr ⟨X.env, List.mem_cons_self, by rw [hf, z]⟩)
    have nF : a ∉ X.fs := fun hm => by
      obtain ⟨e, he, q⟩ := List.mem_filterMap.mp hm
      exact nfr (List.mem_filterMap.mpr ⟨e, List.mem_cons_of_mem _ he, q⟩)
    have Ba : B.get? a = none := fl3.2.1
    have n0 : ∀ o, X.s_0.heap.get? a = some o → X.H_0 a ≠ none := fun o e n => by
      have z := nb a o (J.base.keep a o e n nF (by rw [hex]; exact fun z => nomatch z)) (by rw [hs]; exact nfr)
      rw [Ba] at z; cases z
    have np : ∀ p ∈ X.pn ++ pins, p.1 ≠ a := fun p hp e => by
      obtain ⟨q1, _, q3, q4, _⟩ := J.pin p hp
      have z := nb p.1 p.2 q1 (fun hm => by
        rcases List.mem_cons.mp (J.stkSub p.1 hm) with z | z
        · exact q3 z
        · exact q4 z)
      rw [e, Ba] at z; cases z
    have S3 := J3.suite he3 hd3 na nL nF
    have go : ∀ {hds' : List ExceptHandler} {l' : List (Value × Option Nat × TS)}, HdT X hds' l' → wT X.K Wout D l' cls d σ' H' →
        wpAny (model X.prog X.w) X.A (handleBy (.ref a) X.env hds') (SP X pins D) X.xe { s' with heap := h3 } := by
      intro hds' l' hk
      have LT : PySem.W.Looks (model X.prog X.w) h3 (typeOf (.ref a)) cls := fun A Q E s k q => wpAny_typeOf_ref (k _ _ he3) (by rw [hz3.1]; exact q)
      have test : ∀ {x : Str} {c : Value} {np : Pos} {Q : Value → Shared → Prop} {E : Value → Shared → Prop}, Names X x c → Q c { s' with heap := h3 } → wpAny (model X.prog X.w) (X.A.mark (some (.ref a))) (eval (.Name x np) X.env) Q E { s' with heap := h3 } := fun {x c np Q E} hc q => by
        obtain ⟨hg, hdbg, hm | ⟨hm, hv, hnn⟩⟩ := hc
        · exact ld_glob (X := X.suite a ((a, oe3) :: (X.pn ++ pins))) S3 hg hm q hdbg
        · exact ld_blt (X := X.suite a ((a, oe3) :: (X.pn ++ pins))) S3 hg hm hv q hnn hdbg
      have track : ∀ {h4 : Heap}, HandSPX.FlyingZ B (X.env :: X.outer) a (Zc cls d) h4 → h3.UpToSlots h4 → Inv X pins σ' (upd H' a (exT a cls d)) { s' with heap := h4 } := fun {h4} fl4 up4 => by
        have J4 : Inv X pins σ' H' { s' with heap := h4 } := J.landed nb fl4.1 ((up.trans up3).trans up4) os ag
        obtain ⟨oe4, vs4, he4, hz4, hd4⟩ := fl4.there
        exact inv_track J4 he4 hz4 hd4 na nL n0 np
      induction hk with
      | nil =>
        intro w
        refine wpAny_handleBy_nil ?_
        obtain ⟨k1, k2, k3, oe, vs, T, oT, ts', he, hz, hd, h1, hr⟩ := id fl3
        unfold PySem.passOn
        refine wpAny_bind (wpAny_field he hd h1 ?_)
        rw [if_neg (show ¬ ((Value.ref T == Value.none) = true) from by simp)]
        have fin : wpAny (model X.prog X.w) X.A (setFlight (.ref a) X.env.frame) (fun _ s4 => wpAny (model X.prog X.w) X.A (throw (.ref a) : Sem Flow) (SP X pins D) X.xe s4) X.xe { s' with heap := h3 } := by
          rw [hf]
          refine HandSPX.setFlight_upZ fl3 fun h4 hh4 up4 => wpAny_throw (tk _ _ ?_)
          exact ⟨a, B, sI, pins, σ', H', cls, d, rfl, J, nb, (up.trans up3).trans up4, .inr (.inr (by rw [hs]; exact hh4)), na, os, ag, w⟩
        first
          | exact wpAny_bind (wpAny_pure (wpAny_bind fin))
          | exact wpAny_bind fin
      | @no x c ts b₀ suite np pos' hds2 l2 hc hsu r ih =>
        intro w
        obtain ⟨b, hb1, hyes, hno⟩ := w
        refine wpAny_handleBy_cons (codeAny_handlers_test ?_) (by intro q; cases q)
        have LM := PySem.W.exm_one (M := model X.prog X.w) (J3.kIn) LT hb1
        refine test hc (LM.here ?_)
        cases b with
        | true =>
          refine codeAny_handlers_suite ?_
          refine HandSPX.lands_againZ fl3 fun h4 fl4 up4 => ?_
          have S4 := inv_suite (track fl4 up4) a
          refine wpAny_mono ((hsu a (X.pn ++ pins)).run [] _ _ _ _ S4 (hyes rfl a na)) (fun f s6 hsp => ?_) (fun _ _ z => False.elim z)
          cases f with
          | next =>
            obtain ⟨σ6, H6, S6, q6⟩ := hsp
            exact ⟨_, _, inv_unsuite S6 ok, q6⟩
          | brk =>
            obtain ⟨σ6, H6, S6, q6⟩ := hsp
            exact ⟨_, _, inv_unsuite S6 ok, q6⟩
          | cont =>
            obtain ⟨σ6, H6, S6, q6⟩ := hsp
            exact ⟨_, _, inv_unsuite S6 ok, q6⟩
          | ret u =>
            obtain ⟨v6, σ6, H6, S6, r6, q6⟩ := hsp
            exact ⟨_, _, _, inv_unsuite S6 ok, r6, q6⟩
        | false =>
          show wpAny _ X.A (handleBy (.ref a) X.env hds2) _ _ _
          exact ih (hno rfl)
      | @as x n c i ts b₀ suite np pos' hds2 l2 hc hi hln hsu r ih =>
        intro w
        have hloc : Loc X.env.scope n := .inl hln
        obtain ⟨b, hb1, hyes, hno⟩ := w
        refine wpAny_handleBy_cons (codeAny_handlers_test ?_) (by intro q; cases q)
        have LM := PySem.W.exm_one (M := model X.prog X.w) (J3.kIn) LT hb1
        refine test hc (LM.here ?_)
        cases b with
        | true =>
          refine codeAny_handlers_suite_as ?_
          refine HandSPX.lands_againZ fl3 fun h4 fl4 up4 => ?_
          have S4 := inv_suite (track fl4 up4) a
          refine store_ok (X := X.suite a (X.pn ++ pins)) (v := .ref a) S4 hN hi hloc rfl (fun s5 S5 => ?_) (.inr hln)
          refine wpAny_mono ((hsu a (X.pn ++ pins)).run [] s5 _ _ _ S5 (hyes rfl a na)) (fun f s6 hsp => ?_) (fun _ _ z => False.elim z)
          have end_ : ∀ {σ6 : L2.St} {H6 : Hp} {Q : Shared → Prop}, Inv (X.suite a (X.pn ++ pins)) [] σ6 H6 s6 → (∀ s7, Inv X pins (σ6.set i none) H6 s7 → Q s7) →
              wpAny (model X.prog X.w) X.A (do bindName X.env n .none; unbindBehindTheSuite X.env n pos') (fun _ s7 => Q s7) X.xe s6 := fun {σ6 H6 Q} S6 hq => gone_ok (inv_unsuite S6 ok) hN hi hln hq
          cases f with
          | next =>
            obtain ⟨σ6, H6, S6, q6⟩ := hsp
            exact end_ S6 fun s7 J7 => ⟨_, _, J7, q6⟩
          | brk =>
            obtain ⟨σ6, H6, S6, q6⟩ := hsp
            exact end_ S6 fun s7 J7 => ⟨_, _, J7, q6⟩
          | cont =>
            obtain ⟨σ6, H6, S6, q6⟩ := hsp
            exact end_ S6 fun s7 J7 => ⟨_, _, J7, q6⟩
          | ret u =>
            obtain ⟨v6, σ6, H6, S6, r6, q6⟩ := hsp
            exact end_ S6 fun s7 J7 => ⟨_, _, _, J7, r6, q6⟩
        | false =>
          show wpAny _ X.A (handleBy (.ref a) X.env hds2) _ _ _
          exact ih (hno rfl)
    exact go hh w
  · cases f with
    | next =>
      obtain ⟨σ', H', J', q⟩ := hsp
      exact wpAny_execs_nil ⟨σ', H', J'.ofTry ok, q⟩
    | brk =>
      obtain ⟨σ', H', J', q⟩ := hsp
      exact ⟨σ', H', J'.ofTry ok, q⟩
    | cont =>
      obtain ⟨σ', H', J', q⟩ := hsp
      exact ⟨σ', H', J'.ofTry ok, q⟩
    | ret u =>
      obtain ⟨v, σ', H', J', r, q⟩ := hsp
      exact ⟨v, σ', H', J'.ofTry ok, r, q⟩
end
end Z
namespace Z
open L2 PySem PySem.Spec PyProof.Rows
open Evl (Ex ex_l ex_t ex_rd fresh_back)
variable {Wx : WX}
structure OutX (K : Fg) (F H : Hp) (a : Addr) (fu : Option Nat) (fu' : Option Nat) (F' H' : Hp) : Prop where
  f : Ex F F'
  s : Ex F' H'
  keep : ∀ b o, (fu ≠ none → b ≠ a) → NT o → H b = some o → H' b = some o
  new : ∀ b, F' b ≠ none → F b ≠ none ∨ H b = none
  src : fu ≠ none → ∃ n, fu' = some n ∧ F' a = none ∧ SrcAt H' a n
  tab : TbS H H'
  tk : TabK K F' H'
theorem OutX.out {K : Fg} {F H : Hp} {a : Addr} {fu fu' : Option Nat} {F' H' : Hp} (o : OutX K F H a fu fu' F' H') : Out K F H a fu fu' F' H' .non (.val .none) := ⟨o.f, o.s, o.keep, o.new, o.src, Rp.non, o.tab, o.tk⟩
def liftX (K : Fg) (np : Nat) (fs : FSp) : Sp := fun vs H Q E => ∃ F a rs fu post, Ex F H ∧ Tm K F a fu vs rs ∧ vs.length = np ∧ (∀ n, fu = some n → F a = none ∧ SrcAt H a n) ∧ TabK K F H ∧ fs rs fu post ∧
  (∀ r fu' v H' F', post r fu' → Out K F H a fu fu' F' H' v r → Q v H') ∧
  ∀ nm z fu' cls dd H' F', post (.exc nm z) fu' → OutX K F H a fu fu' F' H' → XvOk K F' cls dd nm z → E cls dd H'
theorem liftX_len {K : Fg} {np : Nat} {fs : FSp} (vs : List V) (H : Hp) (Q : VK) (E : XK) (h : liftX K np fs vs H Q E) : vs.length = np := by
  obtain ⟨_, _, _, _, _, _, _, h, _⟩ := h
  exact h
/-- an expression that may raise: it gives what a def gives -/
abbrev DX := Gs → (Rr → Gs → Prop) → Prop
def upX (K : Fg) (Wx : WX) (t : DX) : TE := fun σ H Q => ∃ c g tv tr F a post, Sta K c g σ H tv tr F a ∧ t g post ∧
  (∀ z g' v H' F' a', post (.val z) g' → Sta K c g' σ H' (v :: tv) (.val z :: tr) F' a' → Q v H') ∧
  (∀ ds g' v H' F' a', post (.own ds) g' → Sta K c g' σ H' tv tr F' a' → NewL K c g' σ H' F' a' v ds → Q v H') ∧
  ∀ nm z g' H' F' a' cls dd, post (.exc nm z) g' → Sta K c g' σ H' tv tr F' a' → XvOk K F' cls dd nm z → Wx cls dd σ H'
def dCallX (np : Nat) (fs : FSp) (ta : DA) : DX := fun g Q => ta g fun rs g1 => rs.length = np ∧ match hasSrc rs with
  | true => fs rs g1.fu fun r fu' => Q r { g1 with fu := fu' }
  | false => fs rs none fun r _ => Q r g1
section
variable {X : Cx} {k : Nat} {f : Addr} {fd : FuncData} {ps : List Str} {fs fs2 : FSp} {x : Str} {p pos : Pos} {e : Expr} {es : List Expr} {tr : DA} {np : Nat} {CX : CXT} {sp : Sp} {E : L2.St → XK} {t : TA}
theorem pe_fnS (F : Fn X.prog X.w X.K X.mg X.base CX k f fd ps sp) (hr : Room k X.A) (hgd : X.A.guards = some []) (hg : Gl X x) (hm : X.mg x = some (.ref f)) (hk : PySem.W.keepIn X.K (.ref f) = true) (hb : Binds X.K fd ps []) (hx : ∀ σ, PassesAt CX X σ (E σ))
    (ha : PA X (e :: es) t) (hdb : (x == ("__debug__" : Str)) = false := by decide) (he : starEach (e :: es) X.env = (false, eval e X.env) :: starEach es X.env := by rfl) (hpl : (backTo pos (starEach es X.env)).any (·.1) = false := by rfl) :
    PE X (.Call (.Name x p) (e :: es) [] pos) (tCallS sp E t) := by
  refine ⟨fun pins s σ H Q I h => ?_⟩
  refine wpAny_Call_Name_kw (ld_glob I hg hm ?_ hdb)
  refine PySem.W.callWith_K (h₀ := X.base) I.ok.mod.kin hk (thn (ha.run pos pins s σ H _ I h) fun us s1 ⟨vs, H1, I1, r, q⟩ => ⟨I1.kIn, ?_⟩) he hpl
  have hl : us.length = ps.length := by rw [← r.length]; exact F.len _ _ _ _ q
  have b := hb s1 us I1.kIn (by rw [List.append_nil]; exact hl)
  rw [List.append_nil] at b
  refine wpAny_call (codeAny_mono (F.run X.A X.stack s1 H1 ⟨us, []⟩ us vs Q (E σ) hr hgd I1.env0 b r q) fun r s' hq => ?_)
  cases r with
  | error e => exact hx σ pins H1 s1 e s' I1 hq
  | ok fl =>
    cases fl with
    | ret u => exact I1.after hq
    | next => exact False.elim hq
    | brk => exact False.elim hq
    | cont => exact False.elim hq
theorem liftX_core : ∀ σ H Q, upX X.K Wx (dCallX np fs tr) σ H Q → tCallS (liftX X.K np fs) (WE Wx) (upA X.K tr) σ H Q := fun σ H Q q => by
  obtain ⟨c, g, tv, tr, F, ad, post, s, t, k1, k2, k3⟩ := q
  refine ⟨c, g, tv, tr, F, ad, _, s, t, fun rs g1 vs H1 F1 a1 t1 s1 hl => ?_⟩
  obtain ⟨hn, t1⟩ := t1
  rw [← hl] at hn
  obtain ⟨m1, m2⟩ := s1.tmp.args hl
  have s2 := s1.pop m2
  cases q : hasSrc rs with
  | true =>
    rw [q] at t1
    have hf := m1.fu_ne q
    refine ⟨F1, a1, rs, g1.fu, _, s1.eh, m1, hn, fun n h => ⟨(s1.src n h).1, (s1.src n h).2.2⟩, s1.tabk, t1, fun r fu' v H' F' hp o => ?_, fun nm z fu' cls dd H' F' hp o ox => ?_⟩
    · have s3 := s2.after1 hf o
      cases r with
      | val d => exact k1 _ _ v H' F' a1 hp (s3.push (r := .val d) o.rep)
      | exc _ _ => exact o.rep.elim
      | own ds => exact k2 _ _ v H' F' a1 hp s3 (NewL.of (g' := { g1 with fu := fu' }) s2 rfl (fun _ => hf) o.rep)
    · exact k3 nm z _ H' F' a1 cls dd hp (s2.after1 hf o.out) ox
  | false =>
    rw [q] at t1
    refine ⟨F1, a1, rs, none, _, s1.eh, m1.noSrc q, hn, fun n h => by (cases h), s1.tabk, t1, fun r fu' v H' F' hp o => ?_, fun nm z fu' cls dd H' F' hp o ox => ?_⟩
    · have s3 := s2.after0 o
      cases r with
      | val d => exact k1 _ _ v H' F' a1 hp (s3.push (r := .val d) o.rep)
      | exc _ _ => exact o.rep.elim
      | own ds => exact k2 _ _ v H' F' a1 hp s3 (NewL.of s2 rfl id o.rep)
    · exact k3 nm z _ H' F' a1 cls dd hp (s2.after0 o.out) ox
theorem x_call (tk : Takes X Wx) (G : Fn X.prog X.w X.K X.mg X.base (L2.CX X.prog X.w) k f fd ps (liftX X.K np fs)) (hr : Room k X.A) (hgd : X.A.guards = some []) (hg : Gl X x) (hm : X.mg x = some (.ref f)) (hk : PySem.W.keepIn X.K (.ref f) = true) (hb : Binds X.K fd ps [])
    (ha : PA X (e :: es) (upA X.K tr)) (hdb : (x == ("__debug__" : Str)) = false := by decide) (he : starEach (e :: es) X.env = (false, eval e X.env) :: starEach es X.env := by rfl) (hpl : (backTo pos (starEach es X.env)).any (·.1) = false := by rfl) :
    PE X (.Call (.Name x p) (e :: es) [] pos) (upX X.K Wx (dCallX np fs tr)) := pe_to (pe_fnS G hr hgd hg hm hk hb (fun σ => passAt tk σ) ha hdb he hpl) liftX_core
end
/-- the def's promise where it doesn't raise, and where it does -/
def orF (fs fs2 : FSp) : FSp := fun rs fu post => fs rs fu post ∨ fs2 rs fu post
theorem fn_orX {P : Program} {w : World} {K : Fg} {mg : Str → Option Value} {base : Heap} {k np : Nat} {f : Addr} {fd : FuncData} {ps : List Str} {fs fs2 : FSp} (A : Fn P w K mg base CX0 k f fd ps (lift K np fs)) (B : Fn P w K mg base (L2.CX P w) k f fd ps (liftX K np fs2)) :
    Fn P w K mg base (L2.CX P w) k f fd ps (liftX K np (orF fs fs2)) := by
  refine ⟨fun vs H Q E h => ?_, fun A' outer s H args us vs Q E hr hg e0 hb r h => ?_⟩
  · obtain ⟨F, a, rs, fu, post, e, t, hl, hs, tk, hf | hf, hq, hx⟩ := h
    · exact A.len vs H Q E ⟨F, a, rs, fu, post, e, t, hl, hs, tk, hf, hq⟩
    · exact B.len vs H Q E ⟨F, a, rs, fu, post, e, t, hl, hs, tk, hf, hq, hx⟩
  · obtain ⟨F, a, rs, fu, post, e, t, hl, hs, tk, hf | hf, hq, hx⟩ := h
    · refine codeAny_mono (A.run A' outer s H args us vs Q E hr hg e0 hb r ⟨F, a, rs, fu, post, e, t, hl, hs, tk, hf, hq⟩) fun r s' h => ?_
      match r, h with
      | .error _, h => exact False.elim h
      | .ok (.ret _), h => exact h
      | .ok .next, h => exact False.elim h
      | .ok .brk, h => exact False.elim h
      | .ok .cont, h => exact False.elim h
    · exact B.run A' outer s H args us vs Q E hr hg e0 hb r ⟨F, a, rs, fu, post, e, t, hl, hs, tk, hf, hq, hx⟩
def dDropX (t : DX) : DS := fun d g => t g fun r g1 => match r with
  | .exc nm z => d.rt (.exc nm z) g1
  | _ => d.nx g1
def dAsgX (i : Nat) (t : DX) : DS := fun d g => t g fun r g1 => match r with
  | .val z => d.nx (g1.set i (.val z))
  | .own ds => d.nx (g1.set i (.own ds))
  | .exc nm z => d.rt (.exc nm z) g1
/-- ("..", e), e raises perhaps -/
def dTup2X (z0 : Da) (t : DX) : DX := fun g Q => t g fun r g1 => match r with
  | .val z => Q (.val (.tuple [z0, z])) g1
  | .own ds => Q (.val (.tuple [z0, .list ds])) g1
  | .exc nm z => Q (.exc nm z) g1
section
variable {X : Cx} {e a b : Expr} {t : DX} {pos : Pos}
theorem s_exprX (he : PE X e (upX X.K Wx t)) (h1 : swapsWith e none pos.line X.env = pure false := by rfl) : PS X (.Expr e pos) (upS X.K Wx (dDropX t)) := ps_to (ps_expr he h1) fun D σ H q => by
  obtain ⟨c, g, tv, tr, F, a, d, s, hn, t, k⟩ := q
  exact ⟨c, g, tv, tr, F, a, _, s, t, fun z g1 v H1 F1 a1 t1 s1 => k.nx g1 σ H1 F1 a1 t1 s1.pop1, fun ds g1 v H1 F1 a1 t1 s1 n1 => k.nx g1 σ H1 F1 a1 t1 s1, fun nm z g1 H1 F1 a1 cls dd t1 s1 ox => k.rx nm z g1 σ H1 F1 a1 cls dd t1 s1 ox⟩
theorem s_setX {i : Nat} {x : Str} {pos' : Pos} (hN : X.N.Nodup) (hi : X.N[i]? = some x) (hx : L2.Loc X.env.scope x) (he : PE X e (upX X.K Wx t)) (h1 : swapsWith e (some (.Name x pos')) pos.line X.env = pure false := by rfl)
    (hf : X.fn x = true ∨ X.env.scope.names.lookup x = some .local := by first | exact .inl rfl | exact .inr rfl) : PS X (.Assign [.Name x pos'] e pos) (upS X.K Wx (dAsgX i t)) := ps_to (ps_set hN hi hx he h1 hf) fun D σ H q => by
  obtain ⟨c, g, tv, tr, F, a, d, s, hn, t, k⟩ := q
  exact ⟨c, g, tv, tr, F, a, _, s, t, fun z g1 v H1 F1 a1 t1 s1 => k.nx _ _ H1 F1 a1 t1 (Sta.set (r := .val z) s1 i), fun ds g1 v H1 F1 a1 t1 s1 n1 => k.nx _ _ H1 F1 a1 t1 (s1.setOwn n1 i), fun nm z g1 H1 F1 a1 cls dd t1 s1 ox => k.rx nm z g1 σ H1 F1 a1 cls dd t1 s1 ox⟩
theorem x_tup2 {x1 : Nat} {v0 : V} {z0 : Da} (ha : PE X a (tC v0)) (h0 : ∀ F, Rp X.K F v0 z0) (hb : PE X b (upX X.K Wx t)) (n1 : starEach [a, b] X.env = (false, eval a X.env) :: starEach [b] X.env := by rfl) (n2 : starEach [b] X.env = (false, eval b X.env) :: starEach [] X.env := by rfl) :
    PE X (.Tuple [a, b] x1 pos) (upX X.K Wx (dTup2X z0 t)) := pe_to (pe_tup (pa_cons ha (pa_cons hb pa_nil n2) n1)) fun σ H Q q => by
  obtain ⟨c, g, tv, tr, F, ad, post, s, t, k1, k2, k3⟩ := q
  have fin : ∀ {z : Da} {g' : Gs} {v : V} {H' F' : Hp} {a' : Addr}, post (.val (.tuple [z0, z])) g' → Sta X.K c g' σ H' (v :: tv) (.val z :: tr) F' a' → [v0, v].length ≤ sizeLine ∧ ∀ p, H' p = none → Q (.ref p) (upd H' p (.tup [v0, v])) := fun {z g' v H' F' a'} t1 s1 => by
    refine ⟨by rw [sizeLine_eq]; show 2 ≤ _; omega, fun p hp => ?_⟩
    have gr := Gr.new (o := .tup [v0, v]) s1.eh hp
    have rz : Rp X.K F' v z := s1.top
    exact k1 _ g' _ _ _ a' t1 ((s1.pop1.grow gr).push (r := .val (.tuple [z0, z])) (.tup (.inl (.inl upd_same)) (.cons (h0 _) (.cons (rz.up gr.f) .nil))))
  refine ⟨c, g, tv, tr, F, ad, _, s, t, fun z g1 v H1 F1 a1 t1 s1 => fin t1 s1, fun ds g1 v H1 F1 a1 t1 s1 n1 => ?_, fun nm z g1 H1 F1 a1 cls dd t1 s1 ox => k3 nm z g1 H1 F1 a1 cls dd t1 s1 ox⟩
  obtain ⟨F2, s2⟩ := s1.still n1
  exact fin t1 s2
end
def dXval (xs : List Str) (te : DE) : DE := fun g Q => te g fun r g1 => match r with
  | .ob (.exc nm (some z)) => nm ∈ xs ∧ Q (.val z) g1
  | _ => False
/-- what the text must have for the field of a caught exception -/
def XvC (K : Fg) (nm : Str) : Prop := ∃ C : Addr, PySem.W.nsIn K mainGlobals nm = some (some (.ref C)) ∧ XfC K C ∧ PySem.W.findIn K (.ref C) "value" = some none
section
variable {X : Cx} {e : Expr} {te : TE} {pos : Pos} {n : Str}
def tXfT (K : Fg) (f : Str) (te : TE) : TE := fun σ H Q => te σ H fun x H1 => ∃ (a C dd : Addr) (fs : List (Str × V)) (v : V), x = .ref a ∧ H1 a = some (exT a (.ref C) (some dd)) ∧ XfC K C ∧ PySem.W.findIn K (.ref C) f = some none ∧ H1 dd = some (.xd fs) ∧ fs.lookup f = some v ∧ Q v H1
theorem pe_xfT (he : PE X e te) (hb : attributeBase e n X.env (eval e X.env) = eval e X.env := by rfl) : PE X (.Attribute e n pos) (tXfT X.K n te) := by
  refine ⟨fun pins s σ H Q I h => ?_⟩
  refine attr_of hb (thn (he.run pins s σ H _ I h) fun u s1 hh => ?_)
  obtain ⟨x, H1, I1, rx, a, C, dd, fs, v, ex, ha, T, hno, ed, l, q⟩ := hh
  subst ex
  obtain rfl : u = Value.ref a := rx
  obtain ⟨oe, vs, he, hz, hd⟩ := exT_at I1.hok ha
  have hx : ObjOk X.prog X.w H1 s1.heap dd (.xd fs) := I1.hok dd _ ed
  obtain ⟨mA, hns, hr⟩ := hx
  obtain ⟨od, ho, hl⟩ := lookIn_ns hns
  obtain ⟨u, hu, ru⟩ := RelO.some_of (v := v) (o := mA n) (by rw [← l]; exact hr n)
  have J : PySem.W.InstAt s1.heap a oe C (some od) := ⟨he, hz.1, by unfold PySem.W.notCls; rw [hd] <;> rfl, by rw [hz.2]; exact ho⟩
  exact HandSPX.exc_get I1.kIn J T.ga T.gg T.exC (PySem.W.findObj_own T.hdC hno rfl (by rw [hl, hu])) (handed_of ru) ⟨v, H1, I1.tok _, ru, q⟩
theorem e_xval {ta : DE} {xs : List Str} (hxs : ∀ nm ∈ xs, XvC X.K nm) (he : PE X e (up X.K ta)) (hb : attributeBase e "value" X.env (eval e X.env) = eval e X.env := by rfl) : PE X (.Attribute e "value" pos) (up X.K (dXval xs ta)) := pe_to (pe_xfT he hb) fun σ H Q q => by
  obtain ⟨c, g, tv, tr, F, a, post, s, t, k⟩ := q
  refine ⟨c, g, tv, tr, F, a, _, s, t, fun r g1 v H1 F1 a1 t1 s1 => ?_⟩
  split at t1
  · rename_i nm z
    obtain ⟨ax, cls, dd, rfl, hF, C, x, u, rfl, hns, rfl, hx, rz⟩ := id s1.top
    obtain ⟨C', hns', T, hno⟩ := hxs nm t1.1
    rw [hns] at hns'
    cases hns'
    exact ⟨ax, C, x, _, u, rfl, s1.eh _ _ hF, T, hno, s1.eh _ _ hx, by simp [List.lookup], k _ g1 u H1 F1 a1 t1.2 (s1.pop1.push (r := .val z) rz)⟩
  · exact t1.elim
end
/-- the program's own exceptions: all straight below the base -/
def xsub (nm c : Str) : Bool := decide (nm = c) || decide (c = "RoundingError") || decide (c = "ValueError")
def Gs.unset (g : Gs) (i : Nat) : Gs := { g with sl := g.sl.set i none }
def dAs (d : DEnds) : Option Nat → DEnds
  | none => d
  | some i => { nx := fun g => d.nx (g.unset i), rt := d.rt, bk := fun g => d.bk (g.unset i), ct := fun g => d.ct (g.unset i) }
def gAs (g : Gs) (nm : Str) (z : Option Da) : Option Nat → Gs
  | none => g
  | some i => g.set i (.ob (.exc nm z))
def dHand : List (Str × Option Nat × DS) → DEnds → Str → Option Da → Gs → Prop
  | [], d, nm, z, g => d.rt (.exc nm z) g
  | (c, i, ts) :: r, d, nm, z, g => (xsub nm c = true → ts (dAs d i) (gAs g nm z i)) ∧ (xsub nm c = false → dHand r d nm z g)
def dTry (xs : List Str) (tb : DS) (l : List (Str × Option Nat × DS)) : DS := fun d g => tb { d with rt := fun r g1 => match r with
  | .exc nm z => nm ∈ xs ∧ dHand l d nm z g1
  | .val x => d.rt (.val x) g1
  | .own ds => d.rt (.own ds) g1 } g
section
variable {K : Fg} {c : Con} {g : Gs} {σ : L2.St} {H F : Hp} {tv : List V} {tr : List Rv} {a : Addr}
theorem Sta.unset (s : Sta K c g σ H tv tr F a) (i : Nat) : Sta K c (g.unset i) (σ.set i none) H tv tr F a := by
  have key : ∀ {j : Nat} {sv : Sv}, (g.sl.set i none)[j]? = some (some sv) → j ≠ i ∧ g.sl[j]? = some (some sv) := fun {j sv} h => by
    rcases set_some h with ⟨_, _, e⟩ | h
    · cases e
    · exact h
  refine ⟨s.e0, s.eh, s.keep, s.new, s.ex, s.ow, s.src, s.tmp, ?_, fun j sv hj => ?_, fun j k ds es hjk hj hk => ?_, s.t0, s.tab⟩
  · show (σ.set i _).length = (g.sl.set i _).length
    rw [List.length_set, List.length_set]; exact s.len
  · obtain ⟨ne, e⟩ := key hj
    obtain ⟨v, w1, w2⟩ := s.slot j sv e
    exact ⟨v, by rw [List.getElem?_set_ne (Ne.symm ne)]; exact w1, w2⟩
  · obtain ⟨n1, e1⟩ := key hj
    obtain ⟨n2, e2⟩ := key hk
    rw [List.getElem?_set_ne (Ne.symm n1), List.getElem?_set_ne (Ne.symm n2)]
    exact s.dis j k ds es hjk e1 e2
end
/-- a clause names the class of c's name; every exception that may come is known to the clause -/
structure HdC (X : Cx) (xs : List Str) (x : Str) (C : Addr) : Prop where
  nm : Names X x (.ref C)
  ex : ∀ nm ∈ xs, ∃ D : Addr, PySem.W.nsIn X.K mainGlobals nm = some (some (.ref D)) ∧ PySem.W.exmOne X.K (.ref D) (.ref C) = some (xsub nm x)
inductive HdD (X : Cx) (xs : List Str) : List ExceptHandler → List (Str × Option Nat × DS) → Prop
  | nil : HdD X xs [] []
  | no {x : Str} {C : Addr} {ts : DS} {b₀ : Stmt} {suite : List Stmt} {np pos' : Pos} {hds : List ExceptHandler} {l : List (Str × Option Nat × DS)} (hc : HdC X xs x C)
      (hsu : ∀ (a : Addr) (pn : List (Addr × Obj)), PSs (X.suite a pn) (b₀ :: suite) (upS X.K W0 ts)) (r : HdD X xs hds l) :
      HdD X xs (.ExceptHandler (some (.Name x np)) none (b₀ :: suite) pos' :: hds) ((x, none, ts) :: l)
  | as {x n : Str} {C : Addr} {i : Nat} {ts : DS} {b₀ : Stmt} {suite : List Stmt} {np pos' : Pos} {hds : List ExceptHandler} {l : List (Str × Option Nat × DS)} (hc : HdC X xs x C) (hi : X.N[i]? = some n) (hln : X.env.kindOf n = some .local)
      (hsu : ∀ (a : Addr) (pn : List (Addr × Obj)), PSs (X.suite a pn) (b₀ :: suite) (upS X.K W0 ts)) (r : HdD X xs hds l) :
      HdD X xs (.ExceptHandler (some (.Name x np)) (some n) (b₀ :: suite) pos' :: hds) ((x, some i, ts) :: l)
section
variable {X : Cx} {xs : List Str} {body : List Stmt} {h₀ : ExceptHandler} {hds : List ExceptHandler} {l : List (Str × Option Nat × DS)} {pos : Pos} {tb : DS}
theorem hd_lift {hds : List ExceptHandler} {l : List (Str × Option Nat × DS)} (h : HdD X xs hds l) : ∃ l', HdT X hds l' ∧ ∀ (c : Con) (tv : List V) (tr : List Rv) (d : DEnds) (D : Ends), DD X.K Wx c tv tr d D → ∀ nm z g σ H F a cls dd, nm ∈ xs → hasSrc tr = false → dHand l d nm z g → Sta X.K c g σ H tv tr F a → XvOk X.K F cls dd nm z → wT X.K Wx D l' cls dd σ H := by
  have the : ∀ {F : Hp} {cls : Value} {dd : Option Addr} {nm : Str} {z : Option Da} {E : Addr}, XvOk X.K F cls dd nm z → PySem.W.nsIn X.K mainGlobals nm = some (some (.ref E)) → cls = .ref E := fun {F cls dd nm z E} ox hE => by
    cases z with
    | none =>
      obtain ⟨C, rfl, h, _⟩ := ox
      rw [hE] at h
      cases h
      rfl
    | some z =>
      obtain ⟨C, x, u, rfl, h, _⟩ := ox
      rw [hE] at h
      cases h
      rfl
  induction h with
  | nil => exact ⟨[], .nil, fun c tv tr d D k nm z g σ H F a cls dd _ _ t s ox => k.rx nm z g σ H F a cls dd t s ox⟩
  | @no x C ts b₀ suite np pos' hds l hc hsu r ih =>
    obtain ⟨l', h1, h2⟩ := ih
    refine ⟨_, .no hc.nm hsu h1, fun c tv tr d D k nm z g σ H F a cls dd hm hn t s ox => ?_⟩
    obtain ⟨E, hE, hb⟩ := hc.ex nm hm
    obtain rfl := the ox hE
    refine ⟨_, hb, fun e p hp => ?_, fun e => h2 c tv tr d D k nm z g σ H F a _ dd hm hn (t.2 e) s ox⟩
    have gr := Gr.new (o := exT p (.ref E) dd) s.eh hp
    exact ⟨c, g, tv, tr, _, a, d, s.grow gr, hn, t.1 e, k.nx, k.bk, k.ct, k.rv, k.ro, fun _ _ _ _ _ _ _ _ _ _ _ _ => True.intro⟩
  | @as x n C i ts b₀ suite np pos' hds l hc hi hln hsu r ih =>
    obtain ⟨l', h1, h2⟩ := ih
    refine ⟨_, .as hc.nm hi hln hsu h1, fun c tv tr d D k nm z g σ H F a cls dd hm hn t s ox => ?_⟩
    obtain ⟨E, hE, hb⟩ := hc.ex nm hm
    obtain rfl := the ox hE
    refine ⟨_, hb, fun e p hp => ?_, fun e => h2 c tv tr d D k nm z g σ H F a _ dd hm hn (t.2 e) s ox⟩
    have gr := Gr.new (o := exT p (.ref E) dd) s.eh hp
    have s1 := ((s.grow gr).push (v := .ref p) (r := .ob (.exc nm z)) ⟨p, _, dd, rfl, upd_same, ox.up gr.f⟩).set i
    exact ⟨c, _, tv, tr, _, a, _, s1, hn, t.1 e, fun g σ H F a h s => k.nx _ _ H F a h (s.unset i), fun g σ H F a h s => k.bk _ _ H F a h (s.unset i), fun g σ H F a h s => k.ct _ _ H F a h (s.unset i), k.rv, k.ro, fun _ _ _ _ _ _ _ _ _ _ _ _ => True.intro⟩
theorem s_try (hs : X.stack = X.env :: X.outer) (hf : X.env.frame = some X.env.locals) (hex : X.ex = []) (hN : X.N.Nodup) (tk : Takes X Wx)
    (hb : ∀ (W : WX) (pn : List (Addr × Obj)) (xe : Value → Shared → Prop), Takes (X.tr pn xe) W → PassesOwn (model X.prog X.w) X.A X.env xe → PSs (X.tr pn xe) body (upS X.K W tb))
    (hh : HdD X xs (h₀ :: hds) l) : PS X (.Try body (h₀ :: hds) [] [] pos) (upS X.K Wx (dTry xs tb l)) := by
  obtain ⟨l', h1, h2⟩ := hd_lift (Wx := Wx) hh
  refine ps_to (ps_tryT hs hf hex hN tk (tb := fun W => upS X.K W tb) hb h1) fun D σ H q => ?_
  obtain ⟨c, g, tv, tr, F, a, d, s, hn, t, k⟩ := q
  exact ⟨c, g, tv, tr, F, a, _, s, hn, t, k.nx, k.bk, k.ct, fun x g σ v H F a h s => k.rv x g σ v H F a h s, fun ds g σ v H F a h s n => k.ro ds g σ v H F a h s n, fun nm z g σ H F a cls dd h s ox => h2 c tv tr d D k nm z g σ H F a cls dd h.1 hn h.2 s ox⟩
end
/-- nothing raised -/
def WF : WX := fun _ _ _ _ => False
def rtN (post : Rr → Option Nat → Prop) : Rr → Gs → Prop := fun r g => match r with
  | .exc _ _ => False
  | .val x => post (.val x) g.fu
  | .own ds => post (.own ds) g.fu
section
variable {P : Program} {w : World} {K : Fg} {mg : Str → Option Value} {base : Heap} {CX : CXT}
theorem fin_out {F H : Hp} {a : Addr} {fu : Option Nat} {g : Gs} {σ : L2.St} {H' F' : Hp} {tv : List V} {tr : List Rv} {a' : Addr} (s : Sta K ⟨F, H, if fu = none then none else some a⟩ g σ H' tv tr F' a') : OutX K F H a fu g.fu F' H' := by
  refine ⟨s.e0, s.eh, fun b o hb hn h => s.keep b o (fun z => ?_) hn h, s.new, fun hf => ?_, s.tab, s.t0⟩
  · by_cases hf : fu = none
    · simp [hf] at z
    · simp [hf] at z
      exact hb hf z.symm
  · obtain ⟨e1, e2⟩ := s.ex a (if_neg hf)
    subst e1
    cases q : g.fu with
    | none => exact absurd q e2
    | some n => exact ⟨n, rfl, (s.src n q).1, (s.src n q).2.2⟩
theorem OutX.with {F H : Hp} {a : Addr} {fu fu' : Option Nat} {F' H' : Hp} {v : V} {r : Rr} (o : OutX K F H a fu fu' F' H') (h : RrOk K F' H H' v r) : Out K F H a fu fu' F' H' v r := ⟨o.f, o.s, o.keep, o.new, o.src, h, o.tab, o.tk⟩
/-- the def may raise -/
theorem fn_dataX {x qual : Str} {st : Stmt} {f : Addr} {fd : FuncData} {N ps : List Str} {k : Nat} {fs : FSp} (Fu : Fun K x qual st f fd) (S : FnScope N ps (defScope st)) (tb : DS)
    (hd : ∀ (cdv : Value) (A : Around) (outer : List Env) (s : Shared) (H : Hp) (E : XK), Room k (A.deeper (envOfC qual (defScope st) s.heap.objs.size f cdv)) → (A.deeper (envOfC qual (defScope st) s.heap.objs.size f cdv)).guards = some [] →
      Takes (cxOf (L2.CX P w) P w K mg base N qual (defScope st) f cdv A outer s H E) (fun cls d _ H => E cls d H) →
      PSs (cxOf (L2.CX P w) P w K mg base N qual (defScope st) f cdv A outer s H E) (defBody st) (upS K (fun cls d _ H => E cls d H) tb))
    (hb : ∀ rs fu post, rs.length = ps.length → fs rs fu post → tb ⟨fun g => post (.val .none) g.fu, fun r g => post r g.fu, fun _ => False, fun _ => False⟩ (ent N rs fu)) : Fn P w K mg base (L2.CX P w) (k + 1) f fd ps (liftX K ps.length fs) := by
  refine fn_by Fu S liftX_len fun cdv A outer s H vs Q E hr hg h => ⟨_, hd cdv A outer s H E hr hg (takes_of rfl rfl rfl rfl), ?_⟩
  obtain ⟨F, a, rs, fu, post, e, t, hl, hs, tk, hf, hq, hx⟩ := h
  have st0 := sta_ent (N := N) e t hs tk
  refine ⟨_, _, [], [], F, a, _, st0, rfl, hb rs fu post (by rw [← t.len]; exact hl) hf, ⟨fun g σ H' F' a' h s => ?_, fun g σ H' F' a' h s => h, fun g σ H' F' a' h s => h, fun x g σ v H' F' a' h s => ?_, fun ds g σ v H' F' a' h s n => ?_, fun nm z g σ H' F' a' cls dd h s ox => ?_⟩⟩
  · exact hq _ _ _ H' F' h ((fin_out s).with (r := .val .none) Rp.non)
  · exact hq _ _ _ H' F' h ((fin_out s).with (r := .val x) s.top)
  · obtain ⟨o, xs, q1, q2, q3, q4, q5, _⟩ := n.ex
    exact hq _ _ _ H' F' h ((fin_out s).with (r := .own ds) ⟨o, xs, q1, q3, q2, q4, q5⟩)
  · exact hx nm z _ cls dd H' F' h (fin_out s) ox
end
end Z
namespace Z
open L2 PySem PySem.Spec PyProof.Rows
open Evl (Ex ex_l ex_t ex_rd fresh_back)
open LamX (LamS lamEnv lamCx lam_start2 inv_table CodeO)
variable {Wx : WX}
/-- what a lambda's body may see: no own list, no source -/
def plainO : Option Sv → Option Sv
  | some (.own _) => none
  | some .src => none
  | x => x
def gLam (g : Gs) : Gs := ⟨g.sl.map plainO, none, true⟩
/-- the lambda as a def's promise -/
def lamF (t : DX) (g : Gs) : FSp := fun rs fu post => rs = [] ∧ fu = none ∧ t (gLam g) fun r _ => post r none
/-- x(lambda: t), R: the promise of x -/
def dLam (R : Kd → FSp → FSp) (t : DX) : DE := fun g Q => ∀ L : Kd, R L (lamF t g) [.ob L] none fun r _ => Q (rrv r) g
/-- a(), where a holds the lambda L -/
def dAct (L : Kd) (fA : FSp) : DX := fun g Q => g.sl[0]? = some (some (.ob L)) ∧ fA [] none fun r _ => Q r g
section
variable {K : Fg} {c : Con} {g : Gs} {σ : L2.St} {H H' F F' : Hp} {tv : List V} {tr : List Rv} {a a' : Addr}
theorem Sta.lam (s : Sta K c g σ H tv tr F a) (ef : Ex F F') (eh : Ex F' H') (tk : TabK K F' H') : Sta K ⟨F', H', none⟩ (gLam g) σ H' [] [] F' a' := by
  have back : ∀ {i : Nat} {sv : Sv}, (gLam g).sl[i]? = some (some sv) → g.sl[i]? = some (some sv) ∧ (∀ ds, sv ≠ .own ds) ∧ sv ≠ .src := fun {i sv} h => by
    have h' : (g.sl.map plainO)[i]? = some (some sv) := h
    rw [List.getElem?_map] at h'
    cases q : g.sl[i]? with
    | none => rw [q] at h'; cases h'
    | some x =>
      rw [q] at h'
      have h2 : plainO x = some sv := Option.some.inj h'
      cases x with
      | none => cases h2
      | some y =>
        cases y with
        | own ds => cases h2
        | src => cases h2
        | val d => cases h2; exact ⟨rfl, fun _ z => (by cases z), fun z => (by cases z)⟩
        | scr d => cases h2; exact ⟨rfl, fun _ z => (by cases z), fun z => (by cases z)⟩
        | ob d => cases h2; exact ⟨rfl, fun _ z => (by cases z), fun z => (by cases z)⟩
  refine ⟨Ex.refl _, eh, fun b o _ _ h => h, fun b h => .inl h, fun b h => (by cases h), fun _ => rfl, fun n h => (by cases h), .nil, ?_, fun i sv h => ?_, fun i j ds es _ h => absurd rfl ((back h).2.1 ds), tk, .refl⟩
  · show σ.length = (g.sl.map plainO).length
    rw [List.length_map]; exact s.len
  · obtain ⟨h1, h2, h3⟩ := back h
    obtain ⟨v, w1, w2⟩ := s.slot i sv h1
    refine ⟨v, w1, ?_⟩
    cases sv with
    | val d => exact Rp.up w2 ef
    | src => exact absurd rfl h3
    | scr ns => obtain ⟨b, z1, z2⟩ := w2; exact ⟨b, z1, ex_l ef z2⟩
    | ob k => exact ObOk.up ef w2
    | own ds => exact absurd rfl (h2 ds)
end
section
variable {X : Cx} {pins : List (Addr × Obj)} {σ : L2.St} {H : Hp} {s : Shared}
/-- the lambda is made; its code object is new, or the table has it -/
theorem lam_mk {c P : Addr} {q : Str} {params : Arguments} {body : Expr} {scope : Scope} {pos : Pos} {E : Value → Shared → Prop} {Q : Value → Shared → Prop} {F : Hp} (I : Inv X pins σ H s) (TB : LamX.TabB X.base X.mg c P) (hcode : X.env.code = .ref c)
    (hq : X.env.qual ++ "<lambda>" = q) (eh : Ex F H) (T : TabAt F H P q) (hdef : defaultsOf params X.env = ([], [])) (hfree : ∀ y ∈ scope.names, y.2 = .free → ∃ c, X.env.cells.lookup y.1 = some c)
    (h : ∀ (f c' : Addr) (pm ctv : Value) (H1 F1 : Hp) (s' : Shared), Inv X pins σ H1 s' → Ex F F1 → (∀ b o, b ≠ P → H b = some o → H1 b = some o) → Ex F1 H1 → (∀ b, F1 b ≠ none → F b ≠ none ∨ H b = none) → TbS H H1 → TabAt F1 H1 P q → F1 c' = some (CodeO c' q) →
      s'.heap.get? f = some (PySem.W.kla_obj "<lambda>" q params body scope (cloFrom X.env.cells scope.names []) pm c' ctv) → H1 f = none → f ∉ frs X.stack → Q (.ref f) s') :
    wpAny (model X.prog X.w) X.A (eval (.Lambda params body scope pos) X.env) Q E s := by
  subst hq
  obtain ⟨⟨ps, hP, ht, ha⟩, fP⟩ := T
  refine PySem.W.kla_eval hdef ?_
  have bP : s.heap.BuiltinsAt X.mg P := TB.bm.keeps I.bk
  have hP' : s.heap.get? P = some { cls := .none, data := .fields ps } := I.hok P _ hP
  have nofr : ∀ f, s.heap.objs.size ≤ f → f ∉ frs X.stack := fun f hf z => by
    rcases List.mem_cons.mp (I.stkSub _ z) with e | e
    · rw [e] at hf
      exact absurd I.lt (Nat.not_lt.mpr hf)
    · exact I.nofs hf e
  have al : ∀ (p' : Pos) (cv : Value) (c' : Addr), codeAmong p' (ps ++ #[rawInt pos.line, rawInt pos.col, .ref c']).toList = some cv → codeAmong p' ps.toList = some cv ∨ cv = .ref c' := fun p' cv c' h => by
    rw [show (ps ++ #[rawInt pos.line, rawInt pos.col, .ref c']).toList = ps.toList ++ [rawInt pos.line, rawInt pos.col, .ref c'] by simp] at h
    exact LamX.among_app _ ht h
  cases hc : codeAmong pos ps.toList with
  | some cv =>
    obtain ⟨c', rfl, hco⟩ := ha pos cv hc
    refine PySem.W.kla_makeFunctionHit (mg := X.mg) (c := c) (P := P) (ps := ps) (closure_ok hfree) I.ok.glob (I.mod.glob.keeps I.bk) hcode (TB.code.keeps I.bk) hP' ht hc bP fun ctv h' tk hx hsz => ?_
    exact h h'.objs.size c' ((X.mg "__name__").getD .none) ctv H F _ (I.kept fun b o e => Heap.get?_push_of_some _ (hx b o e)) (Ex.refl F) (fun _ _ _ e => e) eh (fun _ e => .inl e) .refl ⟨⟨ps, hP, ht, ha⟩, fP⟩ hco (Heap.get?_push_size _ rfl) (I.hok.fresh hsz) (nofr _ hsz)
  | none =>
    refine PySem.W.kla_makeFunction (mg := X.mg) (c := c) (P := P) (ps := ps) (closure_ok hfree) I.ok.glob (I.mod.glob.keeps I.bk) hcode (TB.code.keeps I.bk) hP' ht hc TB.gP bP fun c' ctv h' tk hx hge hlt hrec htb => ?_
    obtain ⟨c2, oc, vs, t, e2, hoc, hd, hv⟩ := hrec
    cases e2
    have nC : H c' = none := I.hok.fresh hge
    have fC : F c' = none := fresh_back eh nC
    have nPc : P ≠ c' := fun z => by rw [z, nC] at hP; cases hP
    have I1 := inv_table (t' := tk) (more := #[rawInt pos.line, rawInt pos.col, .ref c']) (h' := h'.push (PySem.W.kla_obj "<lambda>" (X.env.qual ++ "<lambda>") params body scope (cloFrom X.env.cells scope.names []) ((X.mg "__name__").getD .none) c' ctv)) I hP
      (fun b o hb e => Heap.get?_push_of_some _ (hx b o hb e)) (Heap.get?_push_of_some _ htb) hge ⟨oc, vs, t, Heap.get?_push_of_some _ hoc, hd, hv⟩
    have up1 : ∀ b o, b ≠ P → H b = some o → upd (upd H P (.tbl (ps ++ #[rawInt pos.line, rawInt pos.col, .ref c']))) c' (CodeO c' (X.env.qual ++ "<lambda>")) b = some o := fun b o nb e => by
      rw [upd_ne (fun z => by rw [z, nC] at e; cases e), upd_ne nb]; exact e
    have atP : upd (upd H P (.tbl (ps ++ #[rawInt pos.line, rawInt pos.col, .ref c']))) c' (CodeO c' (X.env.qual ++ "<lambda>")) P = some (.tbl (ps ++ #[rawInt pos.line, rawInt pos.col, .ref c'])) := by
      rw [upd_ne nPc, upd_same]
    have sz : s.heap.objs.size ≤ h'.objs.size := Nat.le_trans hge (Nat.le_of_lt hlt)
    refine h h'.objs.size c' ((X.mg "__name__").getD .none) ctv _ (upd F c' (CodeO c' (X.env.qual ++ "<lambda>"))) _ I1 (Ex.new fC) up1 (fun b o e => ?_) (fun b e => ?_) (fun b qs e => ?_) ⟨⟨_, atP, ?_, fun p' cv hcv => ?_⟩, ?_⟩ upd_same (Heap.get?_push_size _ rfl) ?_ (nofr _ sz)
    · by_cases hb : b = c'
      · subst hb
        rw [upd_same] at e ⊢
        exact e
      · rw [upd_ne hb] at e
        exact up1 b o (fun z => by rw [z, fP] at e; cases e) (eh b o e)
    · by_cases hb : b = c'
      · subst hb
        exact .inr nC
      · rw [upd_ne hb] at e
        exact .inl e
    · by_cases hb : b = P
      · subst hb
        exact ⟨_, atP⟩
      · exact ⟨qs, up1 b _ hb e⟩
    · rw [show (ps ++ #[rawInt pos.line, rawInt pos.col, .ref c']).toList = ps.toList ++ [rawInt pos.line, rawInt pos.col, .ref c'] by simp]
      exact PySem.TriplesOk_snoc _ _ _ _ ht
    · rcases al p' cv c' hcv with z | z
      · obtain ⟨c0, e1, e2⟩ := ha p' cv z
        exact ⟨c0, e1, Ex.new fC _ _ e2⟩
      · exact ⟨c', z, upd_same⟩
    · rw [upd_ne nPc]; exact fP
    · rw [upd_ne (Nat.ne_of_gt hlt), upd_ne (Nat.ne_of_gt (Nat.lt_of_lt_of_le (Heap.lt_size hP') sz))]
      exact I.hok.fresh sz
/-- a(), in the def that got the lambda -/
theorem x_act {Ng : List Str} {qg : Str} {sg : Scope} {gr f c' : Addr} {cdg pm ctv : Value} {params : Arguments} {body : Expr} {scope : Scope} {k : Nat} {a q : Str} {pn : List (Addr × Obj)} {xe : Value → Shared → Prop} {W : WX} {t : DX} {p1 p2 : Pos} {cc : Con} {g : Gs} {tv : List V} {tr : List Rv} {F : Hp} {ad : Addr} {CXg : CXT} {Eg : XK}
    (I : Inv X pins σ H s) (st : Sta X.K cc g σ H tv tr F ad) (L : LamS X.env.scope scope) (hq : X.env.qual ++ "<lambda>" = q) (hf : s.heap.get? f = some (PySem.W.kla_obj "<lambda>" q params body scope (cloFrom X.env.cells scope.names []) pm c' ctv)) (hfn : H f = none) (hfr : f ∉ frs X.stack)
    (hbind : bindArgs (PySem.W.kla_fn "<lambda>" q params body scope (cloFrom X.env.cells scope.names []) pm (.ref c') ctv) ⟨[], []⟩ = pure [])
    (tk : Takes ((cxOf CXg X.prog X.w X.K X.mg X.base Ng qg sg gr cdg X.A X.stack s H Eg).tr pn xe) W) (hr : Room (k + 1) (X.A.deeper (envOfC qg sg s.heap.objs.size gr cdg))) (hgd : X.A.guards = some [])
    (hbody : ∀ (A : Around) (outer : List Env) (s : Shared) (H : Hp) (E : XK), Room k (A.deeper (lamEnv X scope s.heap.objs.size f c')) → (A.deeper (lamEnv X scope s.heap.objs.size f c')).guards = some [] → PE (lamCx X A outer s H E scope f c') body (upX X.K (fun cls d _ H => E cls d H) t))
    (hN : Ng[0]? = some a) (hv : Vis sg a) (hd : (a == ("__debug__" : Str)) = false := by decide) (hcd : (a == ("__classdict__" : Str)) = false := by decide) :
    PE ((cxOf CXg X.prog X.w X.K X.mg X.base Ng qg sg gr cdg X.A X.stack s H Eg).tr pn xe) (.Call (.Name a p1) [] [] p2) (upX X.K W (dAct (.lam F f c' q) (lamF t g))) := by
  subst hq
  refine ⟨fun pinsZ sZ σZ HZ Q IZ h => ?_⟩
  obtain ⟨cz, gz, tvz, trz, FZ, az, postz, sz, ⟨hs0, _, _, ht⟩, k1, k2, k3⟩ := h
  obtain ⟨v0, w1, rfl, hco, eF⟩ := sz.slot 0 _ hs0
  have sl : Sta X.K ⟨FZ, HZ, none⟩ (gLam g) σ HZ [] [] FZ az := st.lam eF sz.eh sz.t0
  refine wpAny_Call_Name_kw (thn ((pe_var (pos := p1) (i := 0) hN hv hd hcd).run pinsZ sZ σZ HZ (fun v H1 => v = .ref f ∧ H1 = HZ) IZ ⟨.ref f, w1, rfl, rfl⟩) fun u s1 ⟨v, H1, I1, r1, q1⟩ => ?_)
  obtain ⟨rfl, rfl⟩ := q1
  obtain rfl : u = Value.ref f := r1
  have of1 : s1.heap.get? f = some (PySem.W.kla_obj "<lambda>" (X.env.qual ++ "<lambda>") params body scope (cloFrom X.env.cells scope.names []) pm c' ctv) := I1.base.keep f _ hf hfn hfr (fun z => nomatch (show f ∈ ([] : List Addr) from z))
  refine PySem.W.callWith_F0 ⟨_, _, _, _, of1⟩ ?_
  have un : Un (frs X.stack) [] H H1 s.heap s1.heap := I1.base
  obtain ⟨⟨oc, vs, tt, hoc, hdc, hvc⟩, _, _⟩ := I1.hok c' _ (sz.eh _ _ hco)
  have rc : codeAny (model X.prog X.w) (X.A.deeper (envOfC qg sg s.heap.objs.size gr cdg)) (.call (.ref f) ⟨[], []⟩) (CR (L2.CX X.prog X.w) (envOfC qg sg s.heap.objs.size gr cdg :: X.stack) X.prog X.w H1 s1 Q (WE W σZ)) s1 := by
    refine PySem.W.kla_callFunE hr.depth of1 rfl L.co L.gen rfl ⟨c', oc, vs, tt, rfl, hoc, hdc, hvc⟩ ?_
    rw [hbind]
    refine wpAny_pure (wpAny_newFunctionEnv (fun y hy => (L.own y hy).2) (fun y hy => absurd hy (by simp)) (fun h₁ hns hsb => ⟨I1.nolimit.fresh _ hsb, ?_⟩) L.kind)
    show codeAny _ _ (.expr body (lamEnv X scope s1.heap.objs.size f c')) _ _
    have kp : ∀ b o, s1.heap.get? b = some o → h₁.get? b = some o := fun b o e => hsb.extBut b o (Nat.ne_of_lt (Heap.lt_size e)) (Heap.get?_push_of_some _ e)
    have J : Inv (lamCx X (X.A.deeper (envOfC qg sg s.heap.objs.size gr cdg)) (envOfC qg sg s.heap.objs.size gr cdg :: X.stack) s1 H1 (WE W σZ) scope f c') [] σ H1 { s1 with heap := h₁, toks := s1.toks + ([] : List (Str × Value)).length } :=
      lam_start2 I L I1.env0 hr.hd un hns kp
    refine PySem.W.kla_codeExpr (wpAny_mono ((hbody _ _ s1 H1 _ (hr.deeper _) hgd).run [] _ _ H1 Q J ⟨⟨FZ, H1, none⟩, gLam g, [], [], FZ, az, _, sl, ht, fun z g' v H' F' a' hp s' => ?_, fun ds g' v H' F' a' hp s' n' => ?_, fun nm z g' H' F' a' cls dd hp s' ox => ?_⟩) (fun v s' hq => ?_) fun e s' hq => hq)
    · have o := (fin_out (fu := none) (a := az) s').with (r := .val z) (v := v) s'.top
      exact k1 z gz v H' F' az hp ((sz.after0 o).push (r := .val z) o.rep)
    · obtain ⟨o, xs, q1, q2, q3, q4, q5, _⟩ := n'.ex
      have o := (fin_out (fu := none) (a := az) s').with (r := .own ds) (v := v) ⟨o, xs, q1, q3, q2, q4, q5⟩
      exact k2 ds gz v H' F' az hp (sz.after0 o) (NewL.of sz rfl id o.rep)
    · exact k3 nm z gz H' F' az cls dd hp (sz.after0 (fin_out (fu := none) (a := az) s').out) ox
    · obtain ⟨w', H', J', rv, q⟩ := hq
      exact ⟨w', H', J'.os, J'.bare, J'.base, J'.hok, rv, q⟩
  have hx := passAt tk σZ
  refine wpAny_call (codeAny_mono rc fun r s' hq => ?_)
  match r, hq with
  | .error e, hq => exact hx pinsZ H1 s1 e s' I1 hq
  | .ok (.ret u), hq => exact I1.after hq
  | .ok .next, hq => exact False.elim hq
  | .ok .brk, hq => exact False.elim hq
  | .ok .cont, hq => exact False.elim hq
end
section
variable {X : Cx} {R : Kd → FSp → FSp} {t : DX}
/-- x(lambda: t) -/
theorem e_lam {x y a : Str} {st : Stmt} {fr c P : Addr} {fd : FuncData} {Nr : List Str} {br : Kd → FSp → DS} {k : Nat} {params : Arguments} {body : Expr} {scope : Scope} {p lpos pos : Pos}
    (Fu : Fun X.K x x st fr fd) (S : FnScope Nr [a] (defScope st)) (hNr : Nr[0]? = some a) (hva : Vis (defScope st) a) (hg : Gl X x) (hm : X.mg x = some (.ref fr)) (hb : Binds X.K fd [a] [])
    (hd : ∀ (L : Kd) (fA : FSp) (cdv : Value) (s : Shared) (H : Hp), Room (k + 1) (X.A.deeper (envOfC x (defScope st) s.heap.objs.size fr cdv)) → X.A.guards = some [] →
      (∀ (W : WX) (pn : List (Addr × Obj)) (xe : Value → Shared → Prop) (p1 p2 : Pos), Takes ((cxOf CX0 X.prog X.w X.K X.mg X.base Nr x (defScope st) fr cdv X.A X.stack s H C8.E0).tr pn xe) W →
        PE ((cxOf CX0 X.prog X.w X.K X.mg X.base Nr x (defScope st) fr cdv X.A X.stack s H C8.E0).tr pn xe) (.Call (.Name a p1) [] [] p2) (upX X.K W (dAct L fA))) →
      PSs (cxOf CX0 X.prog X.w X.K X.mg X.base Nr x (defScope st) fr cdv X.A X.stack s H C8.E0).nox (defBody st) (upS X.K WF (br L fA)))
    (hbp : ∀ (L : Kd) (fA : FSp) (post : Rr → Option Nat → Prop), R L fA [.ob L] none post → br L fA ⟨fun g => post (.val .none) g.fu, rtN post, fun _ => False, fun _ => False⟩ (ent Nr [.ob L] none))
    (hL : y ∈ LAM) (hne : ∀ y' c2 P2, y' ∈ LAM → PySem.W.tabIn X.K y' = some (c2, P2) → y' = y ∨ P2 ≠ P) (hT : PySem.W.tabIn X.K y = some (c, P)) (TB : TbB X.K X.mg X.base) (hcode : X.env.code = .ref c) (hq : X.env.qual ++ "<lambda>" = lamQ y)
    (hr : Room (k + 2) X.A) (hgd : X.A.guards = some []) (Ls : LamS X.env.scope scope) (hdef : defaultsOf params X.env = ([], []))
    (hbind : ∀ (q : Str) (cl : List (Str × Addr)) (pm cv ctv : Value), bindArgs (PySem.W.kla_fn "<lambda>" q params body scope cl pm cv ctv) ⟨[], []⟩ = pure [])
    (hbody : ∀ (A : Around) (outer : List Env) (s : Shared) (H : Hp) (E : XK) (f c' : Addr), Room k (A.deeper (lamEnv X scope s.heap.objs.size f c')) → (A.deeper (lamEnv X scope s.heap.objs.size f c')).guards = some [] → PE (lamCx X A outer s H E scope f c') body (upX X.K (fun cls d _ H => E cls d H) t))
    (hdb : (x == ("__debug__" : Str)) = false := by decide) (hd1 : (a == ("__debug__" : Str)) = false := by decide) (hcd : (a == ("__classdict__" : Str)) = false := by decide) :
    PE X (.Call (.Name x p) [.Lambda params body scope lpos] [] pos) (up X.K (dLam R t)) := by
  refine ⟨fun pins s σ H Q I q => ?_⟩
  obtain ⟨cc, g, tv, tr, F, ad, post, st0, tl, kk⟩ := q
  refine wpAny_Call_Name_kw (ld_glob I hg hm ?_ hdb)
  refine PySem.W.callWith_K (h₀ := X.base) I.ok.mod.kin Fu.kp ?_ (by rfl) (by rfl)
  show wpAny _ _ (spliced ((false, eval (.Lambda params body scope lpos) X.env) :: backTo pos (starEach [] X.env))) _ _ s
  refine Calls.spliced_cons (lam_mk I (TB y c P hL hT) hcode hq st0.eh (st0.t0 y c P hL hT) hdef (Ls.has I.ok) fun f c' pm ctv H1 F1 s1 I1 e1 e2 e3 e4 e5 e6 e7 hf hfn hfr => ?_)
  refine Calls.spliced_nil ⟨I1.kIn, ?_⟩
  obtain ⟨⟨ps0, hPs, _, _⟩, _⟩ := st0.t0 y c P hL hT
  have st1 : Sta X.K cc g σ H1 tv tr F1 ad := st0.growN e1 (fun b o n e => e2 b o (fun z => by rw [z, hPs] at e; cases e; exact n _ rfl) e) e3 e4 e5 fun y' c2 P2 w1 w2 => by
    rcases hne y' c2 P2 w1 w2 with rfl | ne
    · rw [hT] at w2
      cases w2
      exact e6
    · obtain ⟨⟨ps2, a1, a2, a3⟩, a4⟩ := st0.t0 y' c2 P2 w1 w2
      refine ⟨⟨ps2, e2 P2 _ ne a1, a2, fun pos cv hc => ?_⟩, ?_⟩
      · obtain ⟨c, z1, z2⟩ := a3 pos cv hc
        exact ⟨c, z1, e1 _ _ z2⟩
      · cases q : F1 P2 with
        | none => rfl
        | some o =>
          rcases e4 P2 (by rw [q]; exact fun z => nomatch z) with w | w
          · exact absurd a4 w
          · rw [a1] at w
            cases w
  have fin : ∀ {r : Rr} {fu' : Option Nat} {v : V} {H' F' : Hp}, post (rrv r) g → Out X.K F1 H1 ad none fu' F' H' v r → Q v H' := fun {r fu' v H' F'} hp o => by
    have s3 := st1.after0 o
    cases r with
    | val d => exact kk _ _ v H' F' ad hp (s3.push (r := .val d) o.rep)
    | exc _ _ => exact o.rep.elim
    | own ds =>
      obtain ⟨F'', s4⟩ := s3.still (NewL.of st1 rfl id o.rep)
      exact kk _ _ v H' F'' ad hp s4
  obtain ⟨oc, od, kV, doc, pm', an, cdv, ct, osl, rfl, lk, hcdv⟩ := Fu.ex
  have rc : codeAny (model X.prog X.w) X.A (.call (.ref fr) ⟨[.ref f], []⟩) (CR C8.CX0 X.stack X.prog X.w H1 s1 Q C8.E0) s1 := by
    refine LamX.run_ofS (N := Nr) (ps := [a]) (us := [.ref f]) (vs := [.ref f]) lk hcdv S hr I1.env0 (hb s1 [.ref f] I1.kIn rfl) (.cons rfl .nil) rfl fun hr' => ?_
    refine ⟨_, (hd (.lam F1 f c' (lamQ y)) (lamF t g) cdv s1 H1 hr' hgd fun W pn xe p1 p2 tk => x_act I1 st1 Ls hq hf hfn hfr (hbind _ _ _ _ _) tk hr' hgd (fun A outer s H E => hbody A outer s H E f c') hNr hva hd1 hcd).nox, ?_⟩
    have se := sta_ent (N := Nr) (K := X.K) (F := F1) (H := H1) (a := ad) (fu := none) (vs := [.ref f]) (rs := [.ob (.lam F1 f c' (lamQ y))]) e3 (.cons ⟨rfl, e7, Ex.refl _⟩ .nil) (fun n z => by cases z) st1.t0
    refine ⟨_, _, [], [], F1, ad, _, se, rfl, hbp _ _ _ (tl (.lam F1 f c' (lamQ y))), ⟨fun g σ H' F' a' h s => ?_, fun g σ H' F' a' h s => h, fun g σ H' F' a' h s => h, fun x g σ v H' F' a' h s => ?_, fun ds g σ v H' F' a' h s n => ?_, fun nm z g σ H' F' a' cls dd h s ox => ?_⟩⟩
    · exact fin h ((fin_out s).with (r := .val .none) Rp.non)
    · exact fin (r := .val x) h ((fin_out s).with (r := .val x) s.top)
    · obtain ⟨o, xs, q1, q2, q3, q4, q5, _⟩ := n.ex
      exact fin (r := .own ds) h ((fin_out s).with (r := .own ds) ⟨o, xs, q1, q3, q2, q4, q5⟩)
    · exact h
  refine wpAny_call (codeAny_mono rc fun r s2 hq => ?_)
  match r, hq with
  | .error e, hq => exact (show False from hq).elim
  | .ok (.ret u), hq => exact I1.after hq
  | .ok .next, hq => exact False.elim hq
  | .ok .brk, hq => exact False.elim hq
  | .ok .cont, hq => exact False.elim hq
end
section
variable {P : Program} {w : World} {K : Fg} {mg : Str → Option Value} {base : Heap} {CX : CXT}
theorem fn_byM {x qual : Str} {st : Stmt} {f : Addr} {fd : FuncData} {N ps : List Str} {k : Nat} {sp : Sp} (Fu : Fun K x qual st f fd) (S : FnScope N ps (defScope st)) (len : ∀ vs H Q E, sp vs H Q E → vs.length = ps.length)
    (hbody : ∀ (cdv : Value) (A : Around) (outer : List Env) (s : Shared) (H : Hp) (vs : List V) (Q : VK) (E : XK), fd.code = cdv → Room k (A.deeper (envOfC qual (defScope st) s.heap.objs.size f cdv)) →
      (A.deeper (envOfC qual (defScope st) s.heap.objs.size f cdv)).guards = some [] → sp vs H Q E →
      ∃ t, PSs (cxOf CX P w K mg base N qual (defScope st) f cdv A outer s H E) (defBody st) t ∧ t { nx := fun _ H' => Q .non H', rt := Q } (start N vs) H) : Fn P w K mg base CX (k + 1) f fd ps sp := by
  obtain ⟨oc, od, kV, doc, pm, an, cdv, ct, osl, rfl, lk, hcd⟩ := Fu.ex
  refine ⟨len, fun A outer s H args us vs Q E hr hg e0 hb r hsp => ?_⟩
  have KX : K.In s.heap := e0.mod.kin.keeps fun b o e => (e0.bs b o e).1
  have kinds : ∀ y ∈ ps.zip us, (defScope st).names.lookup y.1 = some .local ∨ ((defScope st).names.lookup y.1 = some .cell ∧ ((cellsFrom (s.heap.objs.size + 1) (defScope st).names []).lookup y.1).isSome = true) := by
    rintro ⟨n, v⟩ hy
    exact (S.par n (List.of_mem_zip hy).1).imp id fun q => ⟨q, PySem.W.cellsFrom_some _ _ _ (.inl q)⟩
  refine codeAny_call_function hr.depth (KX _ _ lk) rfl S.co S.gen rfl (PySem.W.codeRec_of KX hcd) (hb _ _ _ _ (wpAny_newFunctionEnv_cells S.kind kinds fun env he s1 x => ?_))
  subst he
  refine ⟨(e0.mod.nolimit.keeps fun b o e => (e0.bs b o e).1).keeps x.toInCall.keep, codeAny_func ?_⟩
  obtain ⟨t, ht, hq⟩ := hbody cdv A outer s H vs Q E rfl (hr.deeper _) hg hsp
  refine wpAny_mono (ht.run [] s1 (start N vs) H _ (inv_start S hr.hd e0 (len _ _ _ _ hsp) r x) hq) (fun fl s' hs => ?_) fun e s' hs => hs
  match fl, hs with
  | .ret u, ⟨v, σ', H', J, rv, q⟩ => exact ⟨v, H', J.os, J.bare, J.base, J.hok, rv, q⟩
  | .next, ⟨σ', H', J, q⟩ => exact ⟨.non, H', J.os, J.bare, J.base, J.hok, rfl, q⟩
  | .brk, ⟨_, _, _, q⟩ => exact q.elim
  | .cont, ⟨_, _, _, q⟩ => exact q.elim
theorem fn_dataM {x qual : Str} {st : Stmt} {f : Addr} {fd : FuncData} {N ps : List Str} {k : Nat} {fs : FSp} (Fu : Fun K x qual st f fd) (S : FnScope N ps (defScope st)) (tb : DS)
    (hd : ∀ (cdv : Value) (A : Around) (outer : List Env) (s : Shared) (H : Hp) (E : XK), fd.code = cdv → Room k (A.deeper (envOfC qual (defScope st) s.heap.objs.size f cdv)) → (A.deeper (envOfC qual (defScope st) s.heap.objs.size f cdv)).guards = some [] →
      PSs (cxOf CX P w K mg base N qual (defScope st) f cdv A outer s H E).nox (defBody st) (upS K WF tb))
    (hb : ∀ rs fu post, rs.length = ps.length → fs rs fu post → tb ⟨fun g => post (.val .none) g.fu, rtN post, fun _ => False, fun _ => False⟩ (ent N rs fu)) : Fn P w K mg base CX (k + 1) f fd ps (lift K ps.length fs) := by
  refine fn_byM Fu S lift_len fun cdv A outer s H vs Q E hc hr hg h => ⟨_, (hd cdv A outer s H E hc hr hg).nox, ?_⟩
  obtain ⟨F, a, rs, fu, post, e, t, hl, hs, tk, hf, hq⟩ := h
  have st0 := sta_ent (N := N) e t hs tk
  refine ⟨_, _, [], [], F, a, _, st0, rfl, hb rs fu post (by rw [← t.len]; exact hl) hf, ⟨fun g σ H' F' a' h s => ?_, fun g σ H' F' a' h s => h, fun g σ H' F' a' h s => h, fun x g σ v H' F' a' h s => ?_, fun ds g σ v H' F' a' h s n => ?_, fun nm z g σ H' F' a' cls dd h s ox => ?_⟩⟩
  · exact hq _ _ _ H' F' h ((fin_out s).with (r := .val .none) Rp.non)
  · exact hq _ _ _ H' F' h ((fin_out s).with (r := .val x) s.top)
  · obtain ⟨o, xs, q1, q2, q3, q4, q5, _⟩ := n.ex
    exact hq _ _ _ H' F' h ((fin_out s).with (r := .own ds) ⟨o, xs, q1, q3, q2, q4, q5⟩)
  · exact h
end
end Z
namespace Z
open L2 PySem PySem.Spec PyProof.Rows
open Evl (Ex ex_l ex_t ex_rd fresh_back)
variable {Wx : WX}
/-- the classes, as values -/
inductive Cvs : List V → List Value → Prop
  | nil : Cvs [] []
  | cons {v : V} {u : Value} {vs : List V} {us : List Value} : (∀ w, RelV v w → w = u) → Cvs vs us → Cvs (v :: vs) (u :: us)
theorem Cvs.all {vs : List V} {us ws : List Value} (h : Cvs vs us) (r : Vals vs ws) : ws = us := by
  induction h generalizing ws with
  | nil => cases r; rfl
  | cons h1 _ ih =>
    cases r with
    | cons r1 r2 => rw [h1 _ r1, ih r2]
end Z
namespace Z
open L2 PySem PySem.Spec PyProof.Rows
open Evl (Ex ex_l ex_t ex_rd fresh_back)
variable {Wx : WX}
section
variable {X : Cx}
/-- the end of C(): the exception is let go, no dict stands -/
theorem mk_end0N {pins : List (Addr × Obj)} {σ : L2.St} {H1 H2 : Hp} {hp hp2 h2 : Heap} {g1 g2 : Array GenState} {d1 d2 : Drawn} {t1 t2 : Nat} {os1 os2 : OsState} {a C : Addr} (I1 : Inv X pins σ H1 ⟨hp, g1, d1, t1, os1⟩)
    (ha : hp.objs.size ≤ a) (k : ∀ b o, hp.get? b = some o → hp2.get? b = some o) (un : Un (frs X.stack) [] (upd H1 a (exo a C none)) H2 hp2 h2) (hok : HOk X.prog X.w H2 h2) (ho : os2 = os1) (hb : AllBare g2)
    (ea : H2 a = some (exo a C none)) :
    ∃ (t0 : Addr) (G : Heap), Inv X pins σ (del H2 a) ⟨G, g2, d2, t2, os2⟩ ∧ (∀ b o, G.get? b = some o → h2.get? b = some o) ∧ G.get? a = none ∧
      h2.get? a = some ({ cls := .ref C, dict := none, data := .fields #[.ref t0, .none, .none, .none, .bool false, .none] } : Obj) := by
  obtain ⟨t0, hoe⟩ := exo_at hok ea
  have hn : H1 a = none := I1.hok.fresh ha
  obtain ⟨G, g1', g2'⟩ := restrict h2 fun b => decide (b ≠ a)
  have gk : ∀ b, b ≠ a → G.get? b = h2.get? b := fun b hb => g1' b (decide_eq_true hb)
  have ge : G.get? a = none := g2' a (by simp)
  have nha : ∀ {b : Addr} {o : Obj}, hp.get? b = some o → b ≠ a := fun {b o} z => Nat.ne_of_lt (Nat.lt_of_lt_of_le (Heap.lt_size z) ha)
  have up : ∀ {b : Addr}, b ≠ a → H1 b = none → upd H1 a (exo a C none) b = none := fun {b} hb n => by rw [upd_ne hb]; exact n
  have U : Un (frs X.stack) [] H1 (del H2 a) hp G := {
    keep := fun b o z n hf hx => by
      rw [gk b (nha z)]
      exact un.keep b o (k b o z) (up (nha z) n) hf hx
    slot := fun b o z n hf hx => by
      rw [gk b (nha z)]
      exact un.slot b o (k b o z) (up (nha z) n) hf hx
    free := fun b o z n hx => by
      rw [del_ne (nha z)]
      exact un.free b o (k b o z) (up (nha z) n) hx
    there := fun b o z hx => by
      rw [gk b (nha z)]
      exact un.there b o (k b o z) hx
    tups := fun b xs z => by
      rw [del_ne (ne_of_none z hn)]
      exact un.tups b xs (by rw [upd_ne (ne_of_none z hn)]; exact z)
    frzs := fun b o v z => by
      rw [del_ne (ne_of_none z hn)]
      exact un.frzs b o v (by rw [upd_ne (ne_of_none z hn)]; exact z)
    tbls := fun b ps z => by
      rw [del_ne (ne_of_none z hn)]
      exact un.tbls b ps (by rw [upd_ne (ne_of_none z hn)]; exact z) }
  have hok3 : HOk X.prog X.w (del H2 a) G := fun b o z => by
    have hba : b ≠ a := fun e => by
      rw [e, del_same] at z
      cases z
    rw [del_ne hba] at z
    have noa : ∀ {c : Addr}, H2 c = some (.own b) → c ≠ a := fun {c} hc => at_ne ea hc exo_own
    exact (hok b o z).stay (fun c v hc y => by
        have hca : c ≠ a := by
          rcases hc with hc | hc
          · rw [hc]
            exact hba
          · exact noa hc
        rw [gk c hca]
        exact y)
      (fun c hc => by rw [del_ne (noa hc)]; exact hc) (fun c xs hc => by rw [del_ne (at_ne ea hc exo_tup)]; exact hc)
  have J : Inv X pins σ (del H2 a) ⟨G, g2, d2, t2, os2⟩ := I1.call' (ch := []) ho U hok3 hb (fun b z => absurd z (by simp))
  refine ⟨t0, G, J, fun b o z => ?_, ge, hoe⟩
  by_cases hba : b = a
  · rw [hba, ge] at z
    cases z
  · exact (gk b hba).symm.trans z
theorem mk_endN {pins : List (Addr × Obj)} {σ : L2.St} {H1 H2 : Hp} {Q : XK} {hp hp2 h2 : Heap} {g1 g2 : Array GenState} {d1 d2 : Drawn} {t1 t2 : Nat} {os1 os2 : OsState} {a C : Addr} (T : Raises X (.ref C)) (I1 : Inv X pins σ H1 ⟨hp, g1, d1, t1, os1⟩)
    (ha : hp.objs.size ≤ a) (k : ∀ b o, hp.get? b = some o → hp2.get? b = some o) (un : Un (frs X.stack) [] (upd H1 a (exo a C none)) H2 hp2 h2) (hok : HOk X.prog X.w H2 h2) (ho : os2 = os1) (hb : AllBare g2)
    (ea : H2 a = some (exo a C none)) (q : Q (.ref C) none (del H2 a)) : MkP X pins σ Q (.ref a) ⟨h2, g2, d2, t2, os2⟩ := by
  obtain ⟨t0, G, J, kG, ge, hoe⟩ := mk_end0N (d2 := d2) (t2 := t2) I1 ha k un hok ho hb ea
  exact ⟨a, _, _, ⟨G, g2, d2, t2, os2⟩, _, .ref C, none, rfl, J, kG, ge, hoe, ⟨rfl, rfl⟩, rfl, rfl, del_same, rfl, hb, T, q⟩
/-- C() -/
def tMkN (C : Addr) (sp : Sp) : L2.St → Hp → XK → Prop := fun σ H Q => ∀ a, H a = none → sp [.ref a] (upd H a (exo a C none))
  (fun v H2 => v = .non ∧ H2 a = some (exo a C none) ∧ Q (.ref C) none (del H2 a)) (fun _ _ _ => False)
theorem pmk_oexN {CX : CXT} {x : Str} {C fI : Addr} {k : Nat} {fd : FuncData} {ps : List Str} {sp : Sp} {p pos : Pos} (T : OexC X.K C) (iC : PySem.W.findIn X.K (.ref C) "__init__" = some (some (.ref fI))) (tI : PySem.W.typeIn X.K (.ref fI) = some (.type "function"))
    (F1 : Fn X.prog X.w X.K X.mg X.base CX k fI fd ps sp) (hr : Room (k + 1) X.A) (hgd : X.A.guards = some []) (hb : Binds X.K fd ps []) (hx : Passes CX X (fun _ _ _ => False)) (hg : Gl X x) (hm : X.mg x = some (.ref C))
    (hdb : (x == ("__debug__" : Str)) = false := by decide) :
    PMk X (.Call (.Name x p) [] [] pos) (tMkN C sp) := by
  intro pins s σ H Q I h
  obtain ⟨nm, q, N, bs, bm, sn, sub, ab, col, dd, k0, k1, k2, k3, k5, hC, hbm⟩ := T.cls
  refine wpAny_Call_Name_kw (ld_glob I hg hm ?_ hdb)
  refine PySem.W.callWith_K0 I.kIn T.kC ?_
  show wpAny _ _ (call (.ref C) []) _ _ _
  have hn0 := h
  obtain ⟨hp, g, dr, tk, os⟩ := s
  have hsz : hp.objs.size ≤ hp.objs.size + 1 := Nat.le_succ _
  have hn : H (hp.objs.size + 1) = none := I.hok.fresh hsz
  have hq := h (hp.objs.size + 1) hn
  have kk : ∀ b o, hp.get? b = some o → ((hp.push (PySem.W.kdv_tup [])).push (PySem.HandSPX.excO C hp.objs.size)).get? b = some o := fun b o e => Heap.get?_push_of_some _ (Heap.get?_push_of_some _ e)
  have hget : ((hp.push (PySem.W.kdv_tup [])).push (PySem.HandSPX.excO C hp.objs.size)).get? (hp.objs.size + 1) = some (PySem.HandSPX.excO C hp.objs.size) := by heap_get
  have I2 : Inv X pins σ (upd H (hp.objs.size + 1) (exo (hp.objs.size + 1) C none)) ⟨(hp.push (PySem.W.kdv_tup [])).push (PySem.HandSPX.excO C hp.objs.size), g, dr, tk, os⟩ :=
    I.laid (t' := tk) (a := hp.objs.size + 1) (o := exo (hp.objs.size + 1) C none) (h' := (hp.push (PySem.W.kdv_tup [])).push (PySem.HandSPX.excO C hp.objs.size)) kk hsz (exo_ok hget)
  have r2 : Vals [V.ref (hp.objs.size + 1)] [Value.ref (hp.objs.size + 1)] := .cons rfl .nil
  have hl : [Value.ref (hp.objs.size + 1)].length = ps.length := by
    have e := r2.length
    rw [F1.len _ _ _ _ hq] at e
    exact e.symm
  have hb' := hb _ [Value.ref (hp.objs.size + 1)] I2.kIn (by rw [List.append_nil]; exact hl)
  rw [List.append_nil] at hb'
  refine wpAny_call (PySem.HandSPX.call_own F.excBase_ValueError (fun Y => PySem.HandSPX.refsVE_contains Y bm hbm) (I.kIn _ _ hC) (PySem.W.looks_findIn I.kIn iC) (fun self => PySem.W.bind_fn I.kIn self tI) (by show 0 ≤ sizeLine; omega)
    (codeAny_mono (F1.run _ X.stack _ _ ⟨[Value.ref (hp.objs.size + 1)], []⟩ [Value.ref (hp.objs.size + 1)] _ _ (fun _ _ _ => False) (hr.make C [] []) hgd (I2.env0.make C [] []) hb' r2 hq) fun r s' hq' => ?_))
  cases r with
  | error er => exact hx pins σ _ _ er s' I2 hq'
  | ok fl =>
    cases fl with
    | ret u =>
      obtain ⟨v, H2, os2, bare2, un2, hok2, rv, ev, ea, q2⟩ := hq'
      subst ev
      obtain ⟨h2, g2, d2, t2, os'⟩ := s'
      exact ⟨rv, mk_endN (raises_own T.exC T.tyC) I hsz kk un2 hok2 os2 bare2 ea q2⟩
    | next => exact False.elim hq'
    | brk => exact False.elim hq'
    | cont => exact False.elim hq'
end
def spX0 (K : Fg) : Sp := fun vs H Q _ => ∃ (a C : Addr), vs = [.ref a] ∧ OexC K C ∧ H a = some (exo a C none) ∧ Q .non H
theorem spX0_len {K : Fg} (vs : List V) (H : Hp) (Q : VK) (E : XK) (h : spX0 K vs H Q E) : vs.length = 1 := by
  obtain ⟨a, C, rfl, _⟩ := h
  rfl
def tX0 (K : Fg) : TS := fun D σ H => ∃ (a C : Addr), σ[0]? = some (some (.ref a)) ∧ OexC K C ∧ H a = some (exo a C none) ∧ D.nx σ H
section
variable {P : Program} {w : World} {K : Fg} {mg : Str → Option Value} {base : Heap} {CX : CXT}
theorem fn_xinit0 {x qual sfx : Str} {st : Stmt} {f R : Addr} {fd : FuncData} {p1 p2 p3 p6 p8 p11 : Pos} {jj : _} (Fu : Fun K x qual st f fd) (S : FnScope ["self"] ["self"] (defScope st)) (B : BaseC K R) (gR : mg "RoundingError" = some (.ref R))
    (hb : defBody st = [.Expr (.Call (.Attribute (.Name "RoundingError" p1) "__init__" p2) [.Name "self" p3, .Constant (.str sfx) jj p6] [] p8) p11])
    (h0 : (defScope st).names.lookup ("self" : Str) = some .local) (hl : (defScope st).names.lookup ("RoundingError" : Str) = some .globalImplicit)
    (hc : ∀ env : Env, ∃ pl : Sem Bool, eval (.Call (.Attribute (.Name "RoundingError" p1) "__init__" p2) [.Name "self" p3, .Constant (.str sfx) jj p6] [] p8) env = (do
      let ov ← eval (.Name "RoundingError" p1) env
      standAt p2.atName
      let (f, first) ← holding [ov] (getMethod ov "__init__" pl)
      callWith p8 f first (backTo p8 (starEach [.Name "self" p3, .Constant (.str sfx) jj p6] env)) (backToKw p8 (keywordEach [] env)))) : Fn P w K mg base CX0 2 f fd ["self"] (spX0 K) := by
  refine fn_by Fu S spX0_len fun cdv A outer s H vs Q E hr hg h => ⟨tX0 K, ?_, ?_⟩
  · obtain ⟨pl, hc⟩ := hc (envOfC qual (defScope st) s.heap.objs.size f cdv)
    rw [hb]
    refine pss_to (pss_one (ps_expr (pe_baseinit (X := cxOf CX0 P w K mg base ["self"] qual (defScope st) f cdv A outer s H E) B hl gR (pa_cons (pe_var (i := 0) rfl (.inl h0)) (pa_cons pe_str pa_nil)) (by decide) hc))) fun D σ H q => ?_
    obtain ⟨a, C, h0, T, ha, hq⟩ := q
    exact ⟨_, h0, a, C, [.str sfx], rfl, (by show 1 ≤ 1000; omega), T, ha, hq⟩
  · obtain ⟨a, C, rfl, T, ha, q⟩ := h
    exact ⟨a, C, rfl, T, ha, q⟩
end
/-- what the text must have for such a class -/
structure Xc0I (K : Fg) (nm : Str) (C fI : Addr) : Prop where
  oex : OexC K C
  ns : PySem.W.nsIn K mainGlobals nm = some (some (.ref C))
  ini : PySem.W.findIn K (.ref C) "__init__" = some (some (.ref fI))
  fn : PySem.W.typeIn K (.ref fI) = some (.type "function")
section
variable {X : Cx} {nm : Str} {C fI : Addr} {k : Nat} {fd : FuncData} {p pos pos2 : Pos}
theorem s_raise0I (hc : X.calm = true) (tk : Takes X Wx) (T : Xc0I X.K nm C fI) (F1 : Fn X.prog X.w X.K X.mg X.base CX0 k fI fd ["self"] (spX0 X.K)) (hr : Room (k + 1) X.A) (hgd : X.A.guards = some []) (hb : Binds X.K fd ["self"] []) (hg : Gl X nm) (hm : X.mg nm = some (.ref C))
    (hdb : (nm == ("__debug__" : Str)) = false := by decide) : PS X (.Raise (some (.Call (.Name nm p) [] [] pos)) none pos2) (upS X.K Wx (dRaise0 nm)) := by
  refine ps_to (ps_raise hc tk (pmk_oexN T.oex T.ini T.fn F1 hr hgd hb pass0 hg hm hdb)) fun D σ H q => ?_
  obtain ⟨c, g, tv, tr, F, a, d, s, hn, t, kk⟩ := q
  refine fun x hx => ⟨x, C, rfl, T.oex, upd_same, rfl, upd_same, ?_⟩
  have eq : del (upd H x (exo x C none)) x = H := by
    funext b
    by_cases hb : b = x
    · rw [hb, del_same, hx]
    · rw [del_ne hb, upd_ne hb]
  rw [eq]
  exact kk.rx nm none g σ H F a _ _ t s ⟨C, rfl, T.ns, rfl⟩
end
end Z
namespace L2
open PySem PySem.Spec PyProof.Rows
end L2
namespace Z
open L2 PySem PySem.Spec PyProof.Rows
open Evl (Ex ex_l ex_t ex_rd fresh_back)
end Z
namespace Z
open L2 PySem PySem.Spec PyProof.Rows
open Evl (Ex ex_l ex_t ex_rd fresh_back)
def lkS (kvs : List (Str × Da)) (x : Str) : Option Da := (kvs.find? fun p => decide (p.1 = x)).map (·.2)
structure KDi (K : Fg) (w : World) (a : Addr) (kvs : List (Str × Da)) : Prop where
  d : ∃ es n, K.lookup a = some ⟨.type "dict", none, .dict es n, #[]⟩ ∧ PySem.W.KeysLit w.params es.toList
  low : (a == sysModules) = false
  get : ∀ x, (lkS kvs x = none ∧ PySem.W.nsIn K a x = some none) ∨ ∃ d v u, lkS kvs x = some d ∧ PySem.W.nsIn K a x = some (some u) ∧ RelV v u ∧ ∀ F, Rp K F v d
def KHas (K : Fg) (w : World) (p : Addr) (z : Str) (b : Bool) : Prop := ∃ es n r, K.lookup p = some ⟨.type "dict", none, .dict es n, #[]⟩ ∧ PySem.W.KeysLit w.params es.toList ∧ (p == sysModules) = false ∧ PySem.W.nsIn K p z = some r ∧ r.isSome = b
section
variable {X : Cx} {b : Expr} {te : DE} {p pos : Pos} {x : Str} {ra : Addr} {kvs : List (Str × Da)} {pins : List (Addr × Obj)} {s : Shared} {σ : L2.St} {H : Hp}
theorem KDi.has {K : Fg} {w : World} {a : Addr} (h : KDi K w a kvs) (z : Str) : KHas K w a z (lkS kvs z).isSome := by
  obtain ⟨es, n, h1, h2⟩ := h.d
  rcases h.get z with ⟨e1, e2⟩ | ⟨d, v, u, e1, e2, _⟩
  · exact ⟨es, n, _, h1, h2, h.low, e2, by rw [e1]; rfl⟩
  · exact ⟨es, n, _, h1, h2, h.low, e2, by rw [e1]; rfl⟩
end
end Z
namespace Z
open L2 PySem PySem.Spec PyProof.Rows
open Evl (Ex ex_l ex_t ex_rd fresh_back)
end Z
namespace Z
open L2 PySem PySem.Spec PyProof.Rows
open Evl (Ex ex_l ex_t ex_rd fresh_back)
end Z
namespace EZ
open L2 PySem PySem.Spec PyProof.Rows
/-- a zip with its mark m (none, or the tuple it gave out) -/
abbrev ZM (h : Heap) (z TI TO : Addr) (m : Value) (f : Bool) : Prop :=
  h.get? z = some { cls := .type "zip", dict := none, data := .fields #[m, .bool f, .bool false, .ref TI, .ref TO], slots := #[] }
def Mk (m : Value) : Prop := m = .none ∨ ∃ T : Nat, m = rawInt T
section
variable {prog : Program} {w : World} {A : Around} {E : Value → Shared → Prop} {s : Shared} {z TI TO i1 i2 : Addr} {fp1 fp2 : List Addr} {n1 n2 i : Nat} {P1 P2 : Nat → Value → Prop} {St1 St2 : Nat → Heap → Prop} {a1 a2 m : Value} {f : Bool}
theorem alive_any {a : Addr} {Q : Option Obj → Shared → Prop} (h : Q (s.heap.get? a) s) : wpAny (model prog w) A (loadIfAlive a) Q E s := fun _ _ _ => h
theorem isFree {Q : Bool → Shared → Prop} (hz : ZM s.heap z TI TO m f) (hm : Mk m) (h1 : Q true s) (h2 : ∀ h', ZM h' z TI TO m true → Heap.SameBut z s.heap h' → Q false { s with heap := h' }) :
    wpAny (model prog w) A (Builtin.SmallTypes.ownedTupleIsFree (.ref z)) Q E s := by
  unfold Builtin.SmallTypes.ownedTupleIsFree
  rcases hm with rfl | ⟨T, rfl⟩
  · exact wpAny_bind (wpAny_field hz rfl (x := .none) rfl (wpAny_pure h1))
  · refine wpAny_bind (wpAny_field hz rfl (x := rawInt T) rfl ?_)
    show wpAny _ _ (loadIfAlive ((T : Int).toNat) >>= _) _ _ _
    refine wpAny_bind (alive_any ?_)
    cases s.heap.get? ((T : Int).toNat) with
    | none => exact wpAny_pure h1
    | some o =>
      simp only [Option.isNone_some, Bool.false_eq_true, if_false]
      refine wpAny_bind (wpAny_field hz rfl (x := .bool f) rfl ?_)
      cases f with
      | true =>
        rw [if_neg (show ¬ ((Value.bool true != Value.bool true) = true) from Bool.false_ne_true)]
        exact wpAny_pure (h2 s.heap hz (Heap.SameBut.refl _ _))
      | false =>
        rw [if_pos (show (Value.bool false != Value.bool true) = true from rfl)]
        exact wpAny_bind (wpAny_setField_rec hz (by simp) fun h₁ hz₁ hs₁ => wpAny_pure (h2 h₁ hz₁ hs₁))
theorem zip_item {Q : Value → Shared → Prop} (S : ZipSep2 z TI TO i1 i2 fp1 fp2) (D1 : Draws prog w A i1 fp1 n1 P1 St1) (D2 : Draws prog w A i2 fp2 n2 P2 St2)
    (hz : ZM s.heap z TI TO m f) (hm : Mk m) (hTI : IsTupOf2 s.heap TI (.ref i1) (.ref i2)) (hTO : IsTupOf2 s.heap TO a1 a2) (st1 : St1 i s.heap) (st2 : St2 i s.heap) (hlt1 : i < n1) (hlt2 : i < n2)
    (hQ : ∀ x1 x2 h' tk m' f' b1 b2, P1 i x1 → P2 i x2 → ZM h' z TI TO m' f' → Mk m' → IsTupOf2 h' TO b1 b2 → St1 (i + 1) h' → St2 (i + 1) h' → IsTupOf2 h' s.heap.objs.size x1 x2 → h'.objs.size = s.heap.objs.size + 1 →
      (∀ c o, c ≠ z → c ≠ TO → c ≠ i1 → c ≠ i2 → s.heap.get? c = some o → h'.get? c = some o) → Q (.ref s.heap.objs.size) { s with heap := h', toks := tk }) :
    wpAny (model prog w) A (Builtin.«zip.__next__» ⟨[.ref z], []⟩) (fun fin s' => ∃ v, fin = .done (.ret v) ∧ Q v s') E s := by
  obtain ⟨hp, g, d, tk0, os⟩ := s
  show wpAny _ _ (field (.ref z) 2 >>= _) _ _ _
  refine wpAny_bind (wpAny_field hz rfl (x := .bool false) rfl ?_)
  show wpAny _ _ (field (.ref z) 3 >>= _) _ _ _
  refine wpAny_bind (wpAny_field hz rfl (x := .ref TI) rfl ?_)
  refine wpAny_bind (wpAny_seqItems hTI rfl ?_)
  show wpAny _ _ (Builtin.SmallTypes.ownedTupleIsFree (.ref z) >>= _) _ _ _
  refine wpAny_bind (isFree hz hm ?_ fun g0 hz0 hs0 => ?_)
  · simp only [if_true]
    refine wpAny_bind (wpAny_rule ?_)
    refine wpAny_bind (wpAny_field hz rfl (x := .ref TO) rfl ?_)
    refine wpAny_bind (wpAny_setField_rec hz (by simp) fun g0 hz0 hs0 => ?_)
    replace hz0 : ZM g0 z TI TO .ellipsis f := hz0
    replace hs0 : Heap.SameBut z hp g0 := hs0
    refine wpAny_bind ?_
    simp only [List.zipIdx_cons, List.zipIdx_nil, List.forIn_cons, List.forIn_nil]
    refine wpAny_bind (wpAny_bind (wpAny_onRaise ?_))
    show wpAny _ _ (Builtin.SmallTypes.nextOf (.ref i1) >>= _) _ _ ⟨g0, g, d, tk0, os⟩
    refine wpAny_bind (D1.item i _ _ _ hlt1 (D1.over st1 hs0 S.zf1) fun x1 p1 tk1 hx1 sn1 hp1 => wpAny_pure ?_)
    replace hp1 : Heap.SameBut i1 g0 p1 := hp1
    have hU1 : IsTupOf2 p1 TO a1 a2 := hp1.extBut _ _ S.Ti1 (hs0.extBut _ _ S.TOz hTO)
    refine wpAny_bind (wpAny_seqItems (s := ⟨p1, g, d, tk1, os⟩) hU1 rfl ?_)
    refine wpAny_bind (updateSeq_IsTupOf2 (s := ⟨p1, g, d, tk1, os⟩) hU1 fun g1 hT1 hs1 => ?_)
    replace hT1 : IsTupOf2 g1 TO x1 a2 := hT1
    replace hs1 : Heap.SameBut TO p1 g1 := hs1
    refine wpAny_bind (wpAny_letGo (wpAny_pure ?_))
    refine wpAny_bind (wpAny_bind (wpAny_onRaise ?_))
    show wpAny _ _ (Builtin.SmallTypes.nextOf (.ref i2) >>= _) _ _ ⟨g1, g, d, tk1, os⟩
    refine wpAny_bind (D2.item i _ _ _ hlt2 (D2.over (D2.over (D2.over st2 hs0 S.zf2) hp1 S.sep1_2) hs1 S.Tf2) fun x2 p2 tk2 hx2 sn2 hp2 => wpAny_pure ?_)
    replace hp2 : Heap.SameBut i2 g1 p2 := hp2
    have hU2 : IsTupOf2 p2 TO x1 a2 := hp2.extBut _ _ S.Ti2 hT1
    refine wpAny_bind (wpAny_seqItems (s := ⟨p2, g, d, tk2, os⟩) hU2 rfl ?_)
    refine wpAny_bind (updateSeq_IsTupOf2 (s := ⟨p2, g, d, tk2, os⟩) hU2 fun g2 hT2 hs2 => ?_)
    replace hT2 : IsTupOf2 g2 TO x1 x2 := hT2
    replace hs2 : Heap.SameBut TO p2 g2 := hs2
    refine wpAny_bind (wpAny_letGo (wpAny_pure (wpAny_pure ?_)))
    refine wpAny_bind (wpAny_seqItems (s := ⟨g2, g, d, tk2, os⟩) hT2 rfl ?_)
    refine wpAny_bind (wpAny_newTuple ?_)
    have hsz : g2.objs.size = hp.objs.size := by rw [hs2.1, hp2.1, hs1.1, hp1.1, hs0.1]
    have hzz : ZM g2 z TI TO .ellipsis f := hs2.extBut _ _ S.TOz.symm (hp2.extBut _ _ S.zi2 (hs1.extBut _ _ S.TOz.symm (hp1.extBut _ _ S.zi1 hz0)))
    have hkk : ∀ c o, c ≠ z → c ≠ TO → c ≠ i1 → c ≠ i2 → hp.get? c = some o → g2.get? c = some o := fun c o cz cT c1 c2 e =>
      hs2.extBut _ _ cT (hp2.extBut _ _ c2 (hs1.extBut _ _ cT (hp1.extBut _ _ c1 (hs0.extBut _ _ cz e))))
    have hj1 : St1 (i + 1) g2 := D1.over (D1.over (D1.over sn1 hs1 S.Tf1) hp2 S.sep2_1) hs2 S.Tf1
    have hj2 : St2 (i + 1) g2 := D2.over sn2 hs2 S.Tf2
    have hzlt : z < g2.objs.size := Heap.lt_size hzz
    show wpAny _ _ (Builtin.SmallTypes.ownedTupleHandOut (.ref z) (.ref g2.objs.size) >>= _) _ _ ⟨g2.push { cls := .type "tuple", data := .seq #[x1, x2] }, g, d, tk2, os⟩
    refine wpAny_bind ?_
    unfold Builtin.SmallTypes.ownedTupleHandOut
    have z6 : ZM (g2.push { cls := .type "tuple", data := .seq #[x1, x2] }) z TI TO .ellipsis f := Heap.get?_push_of_some _ hzz
    refine wpAny_bind (wpAny_setField_rec z6 (by simp) fun h7 z7 s7 => ?_)
    replace z7 : ZM h7 z TI TO (rawInt g2.objs.size) f := z7
    refine wpAny_setField_rec z7 (by simp) fun h8 z8 s8 => ?_
    replace z8 : ZM h8 z TI TO (rawInt g2.objs.size) false := z8
    replace s7 : Heap.SameBut z (g2.push { cls := .type "tuple", data := .seq #[x1, x2] }) h7 := s7
    replace s8 : Heap.SameBut z h7 h8 := s8
    have up : ∀ c o, c ≠ z → g2.get? c = some o → h8.get? c = some o := fun c o c1 e => s8.extBut _ _ c1 (s7.extBut _ _ c1 (Heap.get?_push_of_some _ e))
    have t8 : IsTupOf2 h8 g2.objs.size x1 x2 := s8.extBut _ _ (Nat.ne_of_gt hzlt) (s7.extBut _ _ (Nat.ne_of_gt hzlt) (Heap.get?_push_size _ rfl))
    have n8 : h8.objs.size = g2.objs.size + 1 := by rw [s8.1, s7.1, Heap.size_push]
    rw [hsz] at z8 t8 n8
    refine wpAny_pure ⟨_, rfl, ?_⟩
    show Q (.ref g2.objs.size) ⟨h8, g, d, tk2, os⟩
    rw [hsz]
    exact hQ x1 x2 h8 tk2 _ _ _ _ hx1 hx2 z8 (.inr ⟨_, rfl⟩) (up _ _ S.TOz hT2) (D1.frame _ _ _ hj1 fun b hb o e => up b o (fun q => S.zf1 (q ▸ hb)) e) (D2.frame _ _ _ hj2 fun b hb o e => up b o (fun q => S.zf2 (q ▸ hb)) e) t8 n8 fun c o cz cT c1 c2 e => up c o cz (hkk c o cz cT c1 c2 e)
  · simp only [Bool.false_eq_true, if_false]
    replace hz0 : ZM g0 z TI TO m true := hz0
    replace hs0 : Heap.SameBut z hp g0 := hs0
    refine wpAny_bind ?_
    rw [← Array.forIn_toList]
    simp only [List.forIn_cons, List.forIn_nil]
    refine wpAny_bind (wpAny_bind (wpAny_holding ?_))
    show wpAny _ _ (Builtin.SmallTypes.nextOf (.ref i1) >>= _) _ _ ⟨g0, g, d, tk0, os⟩
    refine wpAny_bind (D1.item i _ _ _ hlt1 (D1.over st1 hs0 S.zf1) fun x1 p1 tk1 hx1 sn1 hp1 => wpAny_pure ?_)
    replace hp1 : Heap.SameBut i1 g0 p1 := hp1
    refine wpAny_pure ?_
    refine wpAny_bind (wpAny_bind (wpAny_holding ?_))
    show wpAny _ _ (Builtin.SmallTypes.nextOf (.ref i2) >>= _) _ _ ⟨p1, g, d, tk1, os⟩
    refine wpAny_bind (D2.item i _ _ _ hlt2 (D2.over (D2.over st2 hs0 S.zf2) hp1 S.sep1_2) fun x2 p2 tk2 hx2 sn2 hp2 => wpAny_pure ?_)
    replace hp2 : Heap.SameBut i2 p1 p2 := hp2
    refine wpAny_pure (wpAny_pure ?_)
    show wpAny _ _ (newTuple [x1, x2] >>= _) _ _ _
    refine wpAny_bind (wpAny_newTuple ?_)
    have hsz : p2.objs.size = hp.objs.size := by rw [hp2.1, hp1.1, hs0.1]
    have hzz : ZM p2 z TI TO m true := hp2.extBut _ _ S.zi2 (hp1.extBut _ _ S.zi1 hz0)
    have hU : IsTupOf2 p2 TO a1 a2 := hp2.extBut _ _ S.Ti2 (hp1.extBut _ _ S.Ti1 (hs0.extBut _ _ S.TOz hTO))
    have hkk : ∀ c o, c ≠ z → c ≠ i1 → c ≠ i2 → hp.get? c = some o → p2.get? c = some o := fun c o cz c1 c2 e => hp2.extBut _ _ c2 (hp1.extBut _ _ c1 (hs0.extBut _ _ cz e))
    have hj1 : St1 (i + 1) p2 := D1.over sn1 hp2 S.sep2_1
    refine wpAny_pure ⟨_, rfl, ?_⟩
    show Q (.ref p2.objs.size) _
    have t8 : IsTupOf2 (p2.push { cls := .type "tuple", data := .seq #[x1, x2] }) p2.objs.size x1 x2 := Heap.get?_push_size _ rfl
    have n8 : (p2.push { cls := .type "tuple", data := .seq #[x1, x2] }).objs.size = p2.objs.size + 1 := Heap.size_push ..
    rw [hsz] at t8 n8 ⊢
    exact hQ x1 x2 _ tk2 _ _ _ _ hx1 hx2 (Heap.get?_push_of_some _ hzz) hm (Heap.get?_push_of_some _ hU) (D1.frame _ _ _ hj1 fun b hb o e => Heap.get?_push_of_some _ e) (D2.frame _ _ _ sn2 fun b hb o e => Heap.get?_push_of_some _ e) t8 n8 fun c o cz cT c1 c2 e => Heap.get?_push_of_some _ (hkk c o cz c1 c2 e)
theorem zip_done {Q : Fin → Shared → Prop} (S : ZipSep2 z TI TO i1 i2 fp1 fp2) (D1 : Draws prog w A i1 fp1 n1 P1 St1) (D2 : Draws prog w A i2 fp2 n2 P2 St2)
    (hz : ZM s.heap z TI TO m f) (hm : Mk m) (hTI : IsTupOf2 s.heap TI (.ref i1) (.ref i2)) (hTO : IsTupOf2 s.heap TO a1 a2) (st1 : St1 i s.heap) (st2 : St2 i s.heap) (hle1 : i ≤ n1) (hle2 : i ≤ n2) (hend : i = n1 ∨ i = n2)
    (hE : ∀ h' tk e, (∀ c o, c ≠ z → c ≠ TO → c ≠ i1 → c ≠ i2 → s.heap.get? c = some o → h'.get? c = some o) → (∃ o, h'.get? e = some o ∧ o.cls = .type "StopIteration") → E (.ref e) { s with heap := h', toks := tk }) :
    wpAny (model prog w) A (Builtin.«zip.__next__» ⟨[.ref z], []⟩) Q E s := by
  obtain ⟨hp, g, d, tk0, os⟩ := s
  show wpAny _ _ (field (.ref z) 2 >>= _) _ _ _
  refine wpAny_bind (wpAny_field hz rfl (x := .bool false) rfl ?_)
  show wpAny _ _ (field (.ref z) 3 >>= _) _ _ _
  refine wpAny_bind (wpAny_field hz rfl (x := .ref TI) rfl ?_)
  refine wpAny_bind (wpAny_seqItems hTI rfl ?_)
  show wpAny _ _ (Builtin.SmallTypes.ownedTupleIsFree (.ref z) >>= _) _ _ _
  refine wpAny_bind (isFree hz hm ?_ fun g0 hz0 hs0 => ?_)
  · simp only [if_true]
    refine wpAny_bind (wpAny_rule ?_)
    refine wpAny_bind (wpAny_field hz rfl (x := .ref TO) rfl ?_)
    refine wpAny_bind (wpAny_setField_rec hz (by simp) fun g0 hz0 hs0 => ?_)
    replace hz0 : ZM g0 z TI TO .ellipsis f := hz0
    replace hs0 : Heap.SameBut z hp g0 := hs0
    refine wpAny_bind ?_
    simp only [List.zipIdx_cons, List.zipIdx_nil, List.forIn_cons, List.forIn_nil]
    refine wpAny_bind (wpAny_bind (wpAny_onRaise ?_))
    show wpAny _ _ (Builtin.SmallTypes.nextOf (.ref i1) >>= _) _ _ ⟨g0, g, d, tk0, os⟩
    by_cases hlt1 : i < n1
    · refine wpAny_bind (D1.item i _ _ _ hlt1 (D1.over st1 hs0 S.zf1) fun x1 p1 tk1 hx1 sn1 hp1 => wpAny_pure ?_)
      replace hp1 : Heap.SameBut i1 g0 p1 := hp1
      have hU1 : IsTupOf2 p1 TO a1 a2 := hp1.extBut _ _ S.Ti1 (hs0.extBut _ _ S.TOz hTO)
      refine wpAny_bind (wpAny_seqItems (s := ⟨p1, g, d, tk1, os⟩) hU1 rfl ?_)
      refine wpAny_bind (updateSeq_IsTupOf2 (s := ⟨p1, g, d, tk1, os⟩) hU1 fun g1 hT1 hs1 => ?_)
      replace hT1 : IsTupOf2 g1 TO x1 a2 := hT1
      replace hs1 : Heap.SameBut TO p1 g1 := hs1
      refine wpAny_bind (wpAny_letGo (wpAny_pure ?_))
      have hi2 : i = n2 := by omega
      refine wpAny_bind (wpAny_bind (wpAny_onRaise ?_))
      show wpAny _ _ (Builtin.SmallTypes.nextOf (.ref i2) >>= _) _ _ ⟨g1, g, d, tk1, os⟩
      refine wpAny_bind (D2.done ⟨g1, g, d, tk1, os⟩ _ _ (by rw [← hi2]; exact (D2.over (D2.over (D2.over st2 hs0 S.zf2) hp1 S.sep1_2) hs1 S.Tf2)) fun q e hq he => ?_)
      replace hq : Heap.ExtBut i2 g1 q := hq
      obtain ⟨oe, hoe, hce⟩ := he
      replace hoe : q.get? e = some oe := hoe
      have hzq : ZM q z TI TO .ellipsis f := hq _ _ S.zi2 (hs1.extBut _ _ S.TOz.symm (hp1.extBut _ _ S.zi1 hz0))
      have hez : e ≠ z := fun x => by subst x; rw [hzq] at hoe; cases hoe; simp at hce
      refine wpAny_setField_rec (s := ⟨q, g, d, tk1, os⟩) hzq (by simp) fun q' _ hq' => ?_
      replace hq' : Heap.SameBut z q q' := hq'
      exact hE q' tk1 e (fun c o cz cT c1 c2 x => hq'.extBut _ _ cz (hq _ _ c2 (hs1.extBut _ _ cT (hp1.extBut _ _ c1 (hs0.extBut _ _ cz x))))) ⟨oe, hq'.extBut _ _ hez hoe, hce⟩
    · have hi1 : i = n1 := by omega
      refine wpAny_bind (D1.done ⟨g0, g, d, tk0, os⟩ _ _ (by rw [← hi1]; exact (D1.over st1 hs0 S.zf1)) fun q e hq he => ?_)
      replace hq : Heap.ExtBut i1 g0 q := hq
      obtain ⟨oe, hoe, hce⟩ := he
      replace hoe : q.get? e = some oe := hoe
      have hzq : ZM q z TI TO .ellipsis f := hq _ _ S.zi1 hz0
      have hez : e ≠ z := fun x => by subst x; rw [hzq] at hoe; cases hoe; simp at hce
      refine wpAny_setField_rec (s := ⟨q, g, d, tk0, os⟩) hzq (by simp) fun q' _ hq' => ?_
      replace hq' : Heap.SameBut z q q' := hq'
      exact hE q' tk0 e (fun c o cz cT c1 c2 x => hq'.extBut _ _ cz (hq _ _ c1 (hs0.extBut _ _ cz x))) ⟨oe, hq'.extBut _ _ hez hoe, hce⟩
  · simp only [Bool.false_eq_true, if_false]
    replace hs0 : Heap.SameBut z hp g0 := hs0
    refine wpAny_bind ?_
    rw [← Array.forIn_toList]
    simp only [List.forIn_cons, List.forIn_nil]
    refine wpAny_bind (wpAny_bind (wpAny_holding ?_))
    show wpAny _ _ (Builtin.SmallTypes.nextOf (.ref i1) >>= _) _ _ ⟨g0, g, d, tk0, os⟩
    by_cases hlt1 : i < n1
    · refine wpAny_bind (D1.item i _ _ _ hlt1 (D1.over st1 hs0 S.zf1) fun x1 p1 tk1 hx1 sn1 hp1 => wpAny_pure ?_)
      replace hp1 : Heap.SameBut i1 g0 p1 := hp1
      refine wpAny_pure ?_
      have hi2 : i = n2 := by omega
      refine wpAny_bind (wpAny_bind (wpAny_holding ?_))
      show wpAny _ _ (Builtin.SmallTypes.nextOf (.ref i2) >>= _) _ _ ⟨p1, g, d, tk1, os⟩
      refine wpAny_bind (D2.done ⟨p1, g, d, tk1, os⟩ _ _ (by rw [← hi2]; exact D2.over (D2.over st2 hs0 S.zf2) hp1 S.sep1_2) fun q e hq he => ?_)
      replace hq : Heap.ExtBut i2 p1 q := hq
      exact hE q tk1 e (fun c o cz cT c1 c2 x => hq _ _ c2 (hp1.extBut _ _ c1 (hs0.extBut _ _ cz x))) he
    · have hi1 : i = n1 := by omega
      refine wpAny_bind (D1.done ⟨g0, g, d, tk0, os⟩ _ _ (by rw [← hi1]; exact (D1.over st1 hs0 S.zf1)) fun q e hq he => ?_)
      replace hq : Heap.ExtBut i1 g0 q := hq
      exact hE q tk0 e (fun c o cz cT c1 c2 x => hq _ _ c1 (hs0.extBut _ _ cz x)) he
/-- the inner walk as enumerate asks it -/
theorem nextZ {Q : Value → Shared → Prop} (S : ZipSep2 z TI TO i1 i2 fp1 fp2) (D1 : Draws prog w A.in1 i1 fp1 n1 P1 St1) (D2 : Draws prog w A.in1 i2 fp2 n2 P2 St2)
    (hz : ZM s.heap z TI TO m f) (hm : Mk m) (hTI : IsTupOf2 s.heap TI (.ref i1) (.ref i2)) (hTO : IsTupOf2 s.heap TO a1 a2) (st1 : St1 i s.heap) (st2 : St2 i s.heap) (hlt1 : i < n1) (hlt2 : i < n2)
    (hQ : ∀ x1 x2 h' tk m' f' b1 b2, P1 i x1 → P2 i x2 → ZM h' z TI TO m' f' → Mk m' → IsTupOf2 h' TO b1 b2 → St1 (i + 1) h' → St2 (i + 1) h' → IsTupOf2 h' s.heap.objs.size x1 x2 → h'.objs.size = s.heap.objs.size + 1 →
      (∀ c o, c ≠ z → c ≠ TO → c ≠ i1 → c ≠ i2 → s.heap.get? c = some o → h'.get? c = some o) → Q (.ref s.heap.objs.size) { s with heap := h', toks := tk }) :
    wpAny (model prog w) A (Builtin.SmallTypes.nextOf (.ref z)) Q E s := by
  have hT : s.TypeIs (.ref z) "zip" := ⟨_, hz, rfl⟩
  unfold Builtin.SmallTypes.nextOf
  exact wpAny_bind (wpAny_callSpecial?_slot (name := Str.ofString "__next__") hT F.slot_zip_next
    (wpAny_call_entry F.slot_zip_next hT F.entry_zip_next
      (zip_item S D1 D2 hz hm hTI hTO st1 st2 hlt1 hlt2 fun x1 x2 h' tk m' f' b1 b2 y1 y2 y3 y4 y5 y6 y7 y8 y9 y10 => wpAny_pure (hQ x1 x2 h' tk m' f' b1 b2 y1 y2 y3 y4 y5 y6 y7 y8 y9 y10)) (F.args_zip_next_1 _)))
theorem nextZ_done {Q : Value → Shared → Prop} (S : ZipSep2 z TI TO i1 i2 fp1 fp2) (D1 : Draws prog w A.in1 i1 fp1 n1 P1 St1) (D2 : Draws prog w A.in1 i2 fp2 n2 P2 St2)
    (hz : ZM s.heap z TI TO m f) (hm : Mk m) (hTI : IsTupOf2 s.heap TI (.ref i1) (.ref i2)) (hTO : IsTupOf2 s.heap TO a1 a2) (st1 : St1 i s.heap) (st2 : St2 i s.heap) (hle1 : i ≤ n1) (hle2 : i ≤ n2) (hend : i = n1 ∨ i = n2)
    (hE : ∀ h' tk e, (∀ c o, c ≠ z → c ≠ TO → c ≠ i1 → c ≠ i2 → s.heap.get? c = some o → h'.get? c = some o) → (∃ o, h'.get? e = some o ∧ o.cls = .type "StopIteration") → E (.ref e) { s with heap := h', toks := tk }) :
    wpAny (model prog w) A (Builtin.SmallTypes.nextOf (.ref z)) Q E s := by
  have hT : s.TypeIs (.ref z) "zip" := ⟨_, hz, rfl⟩
  unfold Builtin.SmallTypes.nextOf
  exact wpAny_bind (wpAny_callSpecial?_slot (name := Str.ofString "__next__") hT F.slot_zip_next
    (wpAny_call_entry F.slot_zip_next hT F.entry_zip_next (zip_done S D1 D2 hz hm hTI hTO st1 st2 hle1 hle2 hend hE) (F.args_zip_next_1 _)))
/-- enumerate over the zip: the next pair -/
theorem enum_item {e : Addr} {c : Int} {old : Value} {Q : Option Value → Shared → Prop} (S : ZipSep2 z TI TO i1 i2 fp1 fp2) (D1 : Draws prog w A.in1.in1 i1 fp1 n1 P1 St1) (D2 : Draws prog w A.in1.in1 i2 fp2 n2 P2 St2)
    (he : IsEnum s.heap e z c old) (hez : e ≠ z) (heT : e ≠ TO) (hei1 : e ≠ i1) (hei2 : e ≠ i2)
    (hz : ZM s.heap z TI TO m f) (hm : Mk m) (hTI : IsTupOf2 s.heap TI (.ref i1) (.ref i2)) (hTO : IsTupOf2 s.heap TO a1 a2) (st1 : St1 i s.heap) (st2 : St2 i s.heap) (hlt1 : i < n1) (hlt2 : i < n2)
    (hQ : ∀ x1 x2 h1 t1 h' tk m' f' b1 b2, P1 i x1 → P2 i x2 → ZM h1 z TI TO m' f' → Mk m' → IsTupOf2 h1 TO b1 b2 → St1 (i + 1) h1 → St2 (i + 1) h1 → IsTupOf2 h1 s.heap.objs.size x1 x2 → h1.objs.size = s.heap.objs.size + 1 →
      (∀ c o, c ≠ z → c ≠ TO → c ≠ i1 → c ≠ i2 → s.heap.get? c = some o → h1.get? c = some o) →
      IsEnumOut h' e z (c + 1) (.ref s.heap.objs.size) h1.objs.size → h'.get? h1.objs.size = some { cls := .type "tuple", data := .seq #[.int c t1, .ref s.heap.objs.size] } → (∀ b o, b ≠ e → h1.get? b = some o → h'.get? b = some o) →
      Q (some (.ref h1.objs.size)) { s with heap := h', toks := tk }) :
    wpAny (model prog w) A (pyNext (.ref e)) Q E s := by
  have hT : s.TypeIs (.ref e) "enumerate" := ⟨_, he, rfl⟩
  unfold pyNext
  refine wpAny_bind (wpAny_attempt (wpAny_callSpecial?_slot (name := Str.ofString "__next__") hT F.slot_enumerate_next
    (wpAny_call_entry F.slot_enumerate_next hT F.entry_enumerate_next ?_ (F.args_enumerate_next_1 _))))
  obtain ⟨hp, g, d, tk0, os⟩ := s
  show wpAny _ _ (field (.ref e) 2 >>= _) _ _ _
  refine wpAny_bind (wpAny_field he rfl (x := .ref z) rfl ?_)
  refine wpAny_bind (nextZ S D1 D2 hz hm hTI hTO st1 st2 hlt1 hlt2 fun x1 x2 h1 tk m' f' b1 b2 y1 y2 y3 y4 y5 y6 y7 y8 y9 y10 => ?_)
  replace y8 : IsTupOf2 h1 hp.objs.size x1 x2 := y8
  replace y9 : h1.objs.size = hp.objs.size + 1 := y9
  replace y10 : ∀ c o, c ≠ z → c ≠ TO → c ≠ i1 → c ≠ i2 → hp.get? c = some o → h1.get? c = some o := y10
  have he1 : IsEnum h1 e z c old := y10 _ _ hez heT hei1 hei2 he
  show wpAny _ _ (field (.ref e) 3 >>= _) _ _ ⟨h1, g, d, tk, os⟩
  refine wpAny_bind (wpAny_field he1 rfl (x := rawInt c) rfl ?_)
  show wpAny _ _ (field (.ref e) 4 >>= _) _ _ ⟨h1, g, d, tk, os⟩
  refine wpAny_bind (wpAny_field he1 rfl (x := .none) rfl ?_)
  show wpAny _ _ (mkInt c >>= _) _ _ ⟨h1, g, d, tk, os⟩
  refine wpAny_bind (wpAny_mkInt ?_)
  show wpAny _ _ (setField (.ref e) 3 (rawInt (c + 1)) >>= _) _ _ ⟨h1, g, d, tk + 1, os⟩
  refine wpAny_bind (wpAny_setField_rec he1 (by simp) fun h2 he2 hs2 => ?_)
  replace hs2 : Heap.SameBut e h1 h2 := hs2
  replace he2 : IsEnum h2 e z (c + 1) old := he2
  show wpAny _ _ (setField (.ref e) 4 .none >>= _) _ _ ⟨h2, g, d, tk + 1, os⟩
  refine wpAny_bind (wpAny_setField_rec he2 (by simp) fun h3 he3 hs3 => ?_)
  replace hs3 : Heap.SameBut e h2 h3 := hs3
  replace he3 : IsEnum h3 e z (c + 1) old := he3
  show wpAny _ _ (newTuple [.int c tk, .ref hp.objs.size] >>= _) _ _ ⟨h3, g, d, tk + 1, os⟩
  refine wpAny_bind (wpAny_newTuple ?_)
  have he4 : IsEnum (h3.push { cls := .type "tuple", data := .seq #[.int c tk, .ref hp.objs.size] }) e z (c + 1) old := Heap.get?_push_of_some _ he3
  have hsz : h3.objs.size = h1.objs.size := by rw [hs3.1, hs2.1]
  have ht4 : (h3.push { cls := .type "tuple", data := .seq #[.int c tk, .ref hp.objs.size] }).get? h1.objs.size = some { cls := .type "tuple", data := .seq #[.int c tk, .ref hp.objs.size] } := by rw [← hsz]; exact Heap.get?_push_size _ rfl
  have hk4 : ∀ b o, b ≠ e → h1.get? b = some o → (h3.push { cls := .type "tuple", data := .seq #[.int c tk, .ref hp.objs.size] }).get? b = some o := fun b o hb q => Heap.get?_push_of_some _ (hs3.extBut b o hb (hs2.extBut b o hb q))
  generalize h3.push { cls := .type "tuple", data := .seq #[.int c tk, .ref hp.objs.size] } = h4 at he4 ht4 hk4
  have hel : e < h1.objs.size := Heap.lt_size he1
  rw [hsz]
  show wpAny _ _ (Builtin.SmallTypes.ownedTupleIsFree (.ref e) >>= _) _ _ ⟨h4, g, d, tk + 1, os⟩
  refine wpAny_bind ?_
  unfold Builtin.SmallTypes.ownedTupleIsFree
  refine wpAny_bind (wpAny_field he4 rfl (x := .none) rfl (wpAny_pure ?_))
  simp only [if_true]
  refine wpAny_bind (wpAny_rule ?_)
  refine wpAny_bind (wpAny_field he4 rfl (x := old) rfl ?_)
  refine wpAny_bind (wpAny_setField_rec he4 (by simp) fun h5 he5 hs5 => ?_)
  replace hs5 : Heap.SameBut e h4 h5 := hs5
  replace he5 : IsEnum h5 e z (c + 1) (.ref hp.objs.size) := he5
  show wpAny _ _ (Builtin.SmallTypes.ownedTupleHandOut (.ref e) (.ref h1.objs.size) >>= _) _ _ ⟨h5, g, d, tk + 1, os⟩
  refine wpAny_bind ?_
  unfold Builtin.SmallTypes.ownedTupleHandOut
  refine wpAny_bind (wpAny_setField_rec he5 (by simp) fun h6 he6 hs6 => ?_)
  replace hs6 : Heap.SameBut e h5 h6 := hs6
  replace he6 : IsEnumOut h6 e z (c + 1) (.ref hp.objs.size) h1.objs.size := he6
  refine wpAny_setField_rec he6 (by simp) fun h7 he7 hs7 => ?_
  replace hs7 : Heap.SameBut e h6 h7 := hs7
  replace he7 : IsEnumOut h7 e z (c + 1) (.ref hp.objs.size) h1.objs.size := he7
  refine wpAny_bind (wpAny_letGo (wpAny_pure ⟨_, rfl, wpAny_pure (hQ x1 x2 h1 tk h7 (tk + 1) m' f' b1 b2 y1 y2 y3 y4 y5 y6 y7 y8 y9 y10 he7 ?_ ?_)⟩))
  · exact hs7.extBut _ _ (Nat.ne_of_gt hel) (hs6.extBut _ _ (Nat.ne_of_gt hel) (hs5.extBut _ _ (Nat.ne_of_gt hel) ht4))
  · exact fun b o hb q => hs7.extBut b o hb (hs6.extBut b o hb (hs5.extBut b o hb (hk4 b o hb q)))
theorem enum_done {e : Addr} {c : Int} {old : Value} {Q : Option Value → Shared → Prop} (S : ZipSep2 z TI TO i1 i2 fp1 fp2) (D1 : Draws prog w A.in1.in1 i1 fp1 n1 P1 St1) (D2 : Draws prog w A.in1.in1 i2 fp2 n2 P2 St2)
    (he : IsEnum s.heap e z c old) (hz : ZM s.heap z TI TO m f) (hm : Mk m) (hTI : IsTupOf2 s.heap TI (.ref i1) (.ref i2)) (hTO : IsTupOf2 s.heap TO a1 a2) (st1 : St1 i s.heap) (st2 : St2 i s.heap) (hle1 : i ≤ n1) (hle2 : i ≤ n2) (hend : i = n1 ∨ i = n2)
    (hQ : ∀ h' tk, (∀ c o, c ≠ z → c ≠ TO → c ≠ i1 → c ≠ i2 → s.heap.get? c = some o → h'.get? c = some o) → Q none { s with heap := h', toks := tk }) :
    wpAny (model prog w) A (pyNext (.ref e)) Q E s := by
  have hT : s.TypeIs (.ref e) "enumerate" := ⟨_, he, rfl⟩
  unfold pyNext
  refine wpAny_bind (wpAny_attempt (wpAny_callSpecial?_slot (name := Str.ofString "__next__") hT F.slot_enumerate_next
    (wpAny_call_entry F.slot_enumerate_next hT F.entry_enumerate_next ?_ (F.args_enumerate_next_1 _))))
  show wpAny _ _ (field (.ref e) 2 >>= _) _ _ _
  refine wpAny_bind (wpAny_field he rfl (x := .ref z) rfl ?_)
  refine wpAny_bind (nextZ_done S D1 D2 hz hm hTI hTO st1 st2 hle1 hle2 hend fun h' tk x hk hx => ?_)
  obtain ⟨o, ho, hc⟩ := hx
  refine wpAny_bind (wpAny_isInstance (T := "StopIteration") (b := true) ⟨o, ho, hc⟩ isSubtype_stop ?_)
  exact wpAny_pure (hQ _ _ hk)
end
end EZ
namespace EZ
open L2 PySem PySem.Spec PyProof.Rows
theorem enum_newZ {z TI TO : Addr} : Meets (Builtin.«enumerate.__new__» ⟨[.type "enumerate", .ref z], []⟩) (fun _ R s => IsZip s.heap z TI TO .none ∧
      R (.ok (.ret (.ref s.heap.objs.size))) { s with heap := s.heap.push { cls := .type "enumerate", data := .fields #[.none, .bool false, .ref z, rawInt 0, .none, .none] } }) := by
  refine .of_wp fun prog w A R s ⟨hv, h⟩ => ?_
  obtain ⟨hp, g, d, tk, os⟩ := s
  have hsub := sub_enumerate
  have go : ∀ {A' : Around} {E' : Value → Shared → Prop} {Q' : Value → Shared → Prop}, Q' (.ref z) ⟨hp, g, d, tk, os⟩ → wpAny (model prog w) A' (pyIter (.ref z)) Q' E' ⟨hp, g, d, tk, os⟩ :=
    fun q => wpAny_pyIter_zip (s := ⟨hp, g, d, tk, os⟩) hv q
  wp_walk using go
  refine wpAny_stack_any fun st => wpAny_pure ?_
  split
  · rename_i c _ _ _ _ _
    cases (c == Value.type "enumerate") <;> (wp_walk using go; exact ⟨_, rfl, h⟩)
  · wp_walk using go
    exact ⟨_, rfl, h⟩
section
variable {prog : Program} {w : World} {A : Around} {E : Value → Shared → Prop} {s : Shared}
theorem call_enumZ {z TI TO : Addr} {Q : Value → Shared → Prop} (hz : IsZip s.heap z TI TO .none)
    (h : ∀ h', IsEnum h' s.heap.objs.size z 0 .none → (∀ b o, s.heap.get? b = some o → h'.get? b = some o) → Q (.ref s.heap.objs.size) { s with heap := h' }) :
    wpAny (model prog w) A (call (.type "enumerate") [.ref z]) Q E s := by
  refine callType_new F.called_enumerate (by decide) (F.typeCall_enumerate_1 _) (F.newCall_enumerate_1 _) (fun obj => F.args_object_init_2 obj _) F.entry_enumerate_new enum_newZ ⟨hz, ?_⟩
  have en := Heap.get?_push_size s.heap (o := { cls := .type "enumerate", data := .fields #[.none, .bool false, .ref z, rawInt 0, .none, .none] }) rfl
  show _ ∧ _
  exact ⟨⟨_, en, rfl⟩, h _ en fun b o x => Heap.get?_push_of_some _ x⟩
end
def ItEZ (K : PySem.W.Frag) (a b : Addr) : It :=
  ⟨fun i H => ∃ (xs ys : List V) (x y : V), SqL K H a xs ∧ SqT K H b ys ∧ xs[i]? = some x ∧ ys[i]? = some y,
    fun i H v H' => ∃ T U x y, v = .ref U ∧ H T = none ∧ (upd H T (.tup [x, y])) U = none ∧ H' = upd (upd H T (.tup [x, y])) U (.tup [.int (i : Nat), .ref T]) ∧ (∀ xs, SqL K H a xs → xs[i]? = some x) ∧ ∀ ys, SqT K H b ys → ys[i]? = some y,
    fun i H => ∃ xs ys : List V, SqL K H a xs ∧ SqT K H b ys ∧ i ≤ xs.length ∧ i ≤ ys.length ∧ (xs.length = i ∨ ys.length = i)⟩
theorem turn_EZ {P : Program} {w : World} {K : PySem.W.Frag} {elts : List Expr} {kk : Nat} {tpos : Pos} {a b e z TI TO i1 i2 : Addr} (D : ZipSep2 z TI TO i1 i2 [i1, a] [i2, b]) (ai : a ≠ i1) (bi : b ≠ i2) (ez : e ≠ z) (eI : e ≠ TI) (eO : e ≠ TO) (e1 : e ≠ i1) (e2 : e ≠ i2) :
    Turn P w K (.Tuple elts kk tpos) (ItEZ K a b) [e, z, TI, TO, i1, i2] e (fun i h => (∃ old, IsEnum h e z ((i : Nat) : Int) old) ∧ (∃ m f, ZM h z TI TO m f ∧ Mk m) ∧ IsTupOf2 h TI (.ref i1) (.ref i2) ∧ (∃ x y, IsTupOf2 h TO x y) ∧ h.IsListIter i1 a i ∧ h.IsTupleIter i2 b i) where
  mem := List.mem_cons_self ..
  obj := fun i h st c hc => by
    obtain ⟨⟨old, he⟩, ⟨m, f, hz, hm⟩, hTI, ⟨x, y, hTO⟩, ⟨o1, q1, _, d1⟩, ⟨o2, q2, _, d2⟩⟩ := st
    have e' : c = e ∨ c = z ∨ c = TI ∨ c = TO ∨ c = i1 ∨ c = i2 := by simpa using hc
    rcases e' with q | q | q | q | q | q
    · rw [q]; exact ⟨_, he, fun v q => nomatch q⟩
    · rw [q]; exact ⟨_, hz, fun v q => nomatch q⟩
    · rw [q]; exact ⟨_, hTI, fun v q => nomatch q⟩
    · rw [q]; exact ⟨_, hTO, fun v q => nomatch q⟩
    · rw [q]; exact ⟨o1, q1, fun v q => by rw [d1] at q; cases q⟩
    · rw [q]; exact ⟨o2, q2, fun v q => by rw [d2] at q; cases q⟩
  keep := fun i h h' st k => by
    obtain ⟨⟨old, he⟩, ⟨m, f, hz, hm⟩, hTI, ⟨x, y, hTO⟩, h1, h2⟩ := st
    exact ⟨⟨old, k e (by simp) _ he⟩, ⟨m, f, k z (by simp) _ hz, hm⟩, k TI (by simp) _ hTI, ⟨x, y, k TO (by simp) _ hTO⟩, h1.at fun o q => k i1 (by simp) o q, h2.at fun o q => k i2 (by simp) o q⟩
  item := by
    intro X hP hw hK hc i pins s σ H E I hf st hg
    subst hP hw hK
    obtain ⟨⟨old, he⟩, ⟨m, f, hz, hm⟩, hTI, ⟨x0, y0, hTO⟩, h1, h2⟩ := st
    obtain ⟨xs, ys, x, y, hqx, hqy, hx, hy⟩ := hg
    obtain ⟨its, rv, p, _⟩ := I.list hqx
    obtain ⟨its2, rv2, p2, _⟩ := I.tuple hqy
    obtain ⟨u, hu, ru⟩ := rv.get hx
    obtain ⟨u2, hu2, ru2⟩ := rv2.get hy
    have D1 := Draws.list (prog := X.prog) (w := X.w) (A := X.A.in1.in1) (I.ok.hd hc) i1 a ai its.toArray
    have D2 := Draws.tuple (prog := X.prog) (w := X.w) (A := X.A.in1.in1) (I.ok.hd hc) i2 b bi its2.toArray
    have l1 : i < its.toArray.size := by
      have := (List.getElem?_eq_some_iff.mp hu).1
      simpa using this
    have l2 : i < its2.toArray.size := by
      have := (List.getElem?_eq_some_iff.mp hu2).1
      simpa using this
    refine enum_item D D1 D2 he ez eO e1 e2 hz hm hTI hTO ⟨h1, p.isList⟩ ⟨h2, p2⟩ l1 l2 fun x1 x2 g1 t1 g2 tk m' f' b1 b2 y1 y2 y3 y4 y5 y6 y7 y8 y9 y10 y11 y12 y13 => ?_
    obtain rfl : u = x1 := by
      have e1 : its.toArray[i]? = some u := by simpa using hu
      rw [e1] at y1
      exact Option.some.inj y1
    obtain rfl : u2 = x2 := by
      have e1 : its2.toArray[i]? = some u2 := by simpa using hu2
      rw [e1] at y2
      exact Option.some.inj y2
    have low : ∀ c ∈ [e, z, TI, TO, i1, i2], c < s.heap.objs.size := fun c hcm => by
      have e' : c = e ∨ c = z ∨ c = TI ∨ c = TO ∨ c = i1 ∨ c = i2 := by simpa using hcm
      rcases e' with q | q | q | q | q | q
      · rw [q]; exact Heap.lt_size he
      · rw [q]; exact Heap.lt_size hz
      · rw [q]; exact Heap.lt_size hTI
      · rw [q]; exact Heap.lt_size hTO
      · rw [q]; obtain ⟨_, e1, _⟩ := h1; exact Heap.lt_size e1
      · rw [q]; obtain ⟨_, e2, _⟩ := h2; exact Heap.lt_size e2
    have hel : e < s.heap.objs.size := low e (by simp)
    have new1 : ObjOk X.prog X.w (upd H s.heap.objs.size (.tup [x, y])) g1 s.heap.objs.size (.tup [x, y]) :=
      ⟨by show 2 ≤ sizeLine; decide, [u, u2], .cons ru (.cons ru2 .nil), ⟨_, y8, rfl, _, rfl⟩⟩
    have I1 : Inv X pins σ (upd H s.heap.objs.size (.tup [x, y])) { s with heap := g1, toks := t1 } :=
      I.turnedNew (t' := t1) (ch := [e, z, TI, TO, i1, i2]) (fun c o hb q => y10 c o (fun q' => hb (by simp [q'])) (fun q' => hb (by simp [q'])) (fun q' => hb (by simp [q'])) (fun q' => hb (by simp [q'])) q) hf (Nat.le_refl _) new1
    have hf1 : ∀ c ∈ [e, z, TI, TO, i1, i2], FpOk X pins (upd H s.heap.objs.size (.tup [x, y])) c := fun c hcm => by
      obtain ⟨f0, f1⟩ := hf c hcm
      exact ⟨by rw [upd_ne (Nat.ne_of_lt (low c hcm))]; exact f0, f1⟩
    refine ⟨_, rfl, wpAny_letOwnedTupleGo_enum (s := { s with heap := g2, toks := tk }) y11 fun h'' he' sb => ?_⟩
    replace sb : Heap.SameBut e g2 h'' := sb
    have hg1 : e ≠ g1.objs.size := by rw [y9]; exact Nat.ne_of_lt (Nat.lt_succ_of_lt hel)
    have hT2 := (sb.2 _ (Ne.symm hg1)).trans y12
    have kk' : ∀ b o, b ≠ e → g1.get? b = some o → h''.get? b = some o := fun b o hb q => (sb.2 b hb).trans (y13 b o hb q)
    have new2 : ObjOk X.prog X.w (upd (upd H s.heap.objs.size (.tup [x, y])) g1.objs.size (.tup [.int (i : Nat), .ref s.heap.objs.size])) h'' g1.objs.size (.tup [.int (i : Nat), .ref s.heap.objs.size]) :=
      ⟨by show 2 ≤ sizeLine; decide, [.int i t1, .ref s.heap.objs.size], .cons ⟨_, rfl⟩ (.cons rfl .nil), ⟨_, hT2, rfl, _, rfl⟩⟩
    have I2 : Inv X pins σ (upd (upd H s.heap.objs.size (.tup [x, y])) g1.objs.size (.tup [.int (i : Nat), .ref s.heap.objs.size])) { s with heap := h'', toks := tk } :=
      I1.turnedNew (t' := tk) (ch := [e, z, TI, TO, i1, i2]) (fun c o hb q => kk' c o (fun q' => hb (by simp [q'])) q) hf1 (Nat.le_refl _) new2
    have nT : H s.heap.objs.size = none := I.hok.fresh (Nat.le_refl _)
    have nU : (upd H s.heap.objs.size (.tup [x, y])) g1.objs.size = none := I1.hok.fresh (Nat.le_refl _)
    refine ⟨.ref g1.objs.size, _, I2, rfl, ⟨s.heap.objs.size, g1.objs.size, x, y, rfl, nT, nU, rfl, fun l hl => by rw [I.list_inj hl hqx]; exact hx, fun l hl => by rw [I.tuple_inj hl hqy]; exact hy⟩, ⟨⟨.ref s.heap.objs.size, ?_⟩, ⟨m', f', kk' _ _ (Ne.symm ez) y3, y4⟩, ?_, ⟨_, _, kk' _ _ (Ne.symm eO) y5⟩, y6.1.at fun o q => kk' _ _ (Ne.symm e1) q, y7.1.at fun o q => kk' _ _ (Ne.symm e2) q⟩, fun c hcm => ?_⟩
    · rw [show ((i + 1 : Nat) : Int) = (i : Int) + 1 by omega]
      exact he'
    · exact kk' _ _ (Ne.symm eI) (y10 _ _ D.TIz D.TITO D.TIi1 D.TIi2 hTI)
    · rw [upd_ne (Nat.ne_of_lt (by rw [y9]; exact Nat.lt_succ_of_lt (low c hcm)))]
      exact (hf1 c hcm).1
  done := by
    intro X hP hw hK hc i pins s σ H E I hf st hg
    subst hP hw hK
    obtain ⟨⟨old, he⟩, ⟨m, f, hz, hm⟩, hTI, ⟨x0, y0, hTO⟩, h1, h2⟩ := st
    obtain ⟨xs, ys, hqx, hqy, le1, le2, hend⟩ := hg
    obtain ⟨its, rv, p, _⟩ := I.list hqx
    obtain ⟨its2, rv2, p2, _⟩ := I.tuple hqy
    have l1 := rv.length
    have l2 := rv2.length
    have D1 := Draws.list (prog := X.prog) (w := X.w) (A := X.A.in1.in1) (I.ok.hd hc) i1 a ai its.toArray
    have D2 := Draws.tuple (prog := X.prog) (w := X.w) (A := X.A.in1.in1) (I.ok.hd hc) i2 b bi its2.toArray
    refine enum_done D D1 D2 he hz hm hTI hTO ⟨h1, p.isList⟩ ⟨h2, p2⟩ (by simp; omega) (by simp; omega) (by simp; omega) fun h' tk hk => ⟨rfl, I.turnedL (t' := tk) (ch := [e, z, TI, TO, i1, i2]) (fun c o hb q =>
      hk c o (fun q' => hb (by simp [q'])) (fun q' => hb (by simp [q'])) (fun q' => hb (by simp [q'])) (fun q' => hb (by simp [q'])) q) hf⟩
  self := fun A i s Q E st h => by
    obtain ⟨⟨_, he⟩, _⟩ := st
    exact wpAny_pyIter_enum he h
theorem sepE (I a b : Nat) (la : a < I) (lb : b < I) : ZipSep2 (I + 4) (I + 2) (I + 3) I (I + 1) [I, a] [I + 1, b] ∧ (a : Addr) ≠ I ∧ (b : Addr) ≠ I + 1 ∧ (I + 5 : Addr) ≠ I + 4 ∧ (I + 5 : Addr) ≠ I + 2 ∧ (I + 5 : Addr) ≠ I + 3 ∧ (I + 5 : Addr) ≠ I ∧ (I + 5 : Addr) ≠ I + 1 := by
  have two : ∀ {x y z : Nat}, x ≠ y → x ≠ z → (x : Addr) ∉ ([y, z] : List Addr) := fun {x y z} h1 h2 h => by
    rcases List.mem_cons.mp h with e | h
    · exact h1 e
    · exact h2 (List.mem_singleton.mp h)
  refine ⟨⟨?_, ?_, ?_, ?_, List.mem_cons_self .., two (by omega) (by omega), two (by omega) (by omega), ?_, List.mem_cons_self .., two (by omega) (by omega), two (by omega) (by omega), two (by omega) (by omega), two (by omega) (by omega)⟩, ?_, ?_, ?_, ?_, ?_, ?_, ?_⟩
  all_goals (refine PySem.W.neN ?_; omega)
def iEZ (K : PySem.W.Frag) (ta : TA) : TI := fun σ H R => ta σ H fun vs H1 => ∃ a b xs ys, vs = [.ref a, .ref b] ∧ SqL K H1 a xs ∧ SqT K H1 b ys ∧ R (ItEZ K a b) H1
theorem pi_EZ {X : Cx} {e e2 : Expr} {ta : TA} {p pos p2 pos2 tpos : Pos} {elts : List Expr} {kk : Nat} (hg : Gl X "enumerate") (hm : X.mg "enumerate" = none) (hg2 : Gl X "zip") (hm2 : X.mg "zip" = none) (ha : PA X [e, e2] ta)
    (hs : starEach [e, e2] X.env = (false, eval e X.env) :: starEach [e2] X.env := by rfl) (hpl : (backTo pos2 (starEach [e2] X.env)).any (·.1) = false := by rfl)
    (na : starEach [.Call (.Name "zip" p2) [e, e2] [] pos2] X.env = (false, eval (.Call (.Name "zip" p2) [e, e2] [] pos2) X.env) :: starEach [] X.env := by rfl) :
    PI X (.Tuple elts kk tpos) (.Call (.Name "enumerate" p) [.Call (.Name "zip" p2) [e, e2] [] pos2] [] pos) (iEZ X.K ta) := by
  refine ⟨fun pins s σ H R I h => ?_⟩
  refine Call_ (ld_blt I hg hm boot_enumerate (PyProof.Rows.callWith_type1 (args_cons (Call_ (ld_blt I hg2 hm2 PyProof.Rows.boot_zip (PyProof.Rows.callWith_type1 (thn (ha.run pos2 pins s σ H _ I h) fun us s1 ⟨vs, H1, I1, r1, q1⟩ => ?_) hs hpl))) na) na))
  obtain ⟨a, b, xs, ys, ex, hqx, hqy, q⟩ := q1
  subst ex
  cases r1 with
  | cons r rr =>
    cases rr with
    | cons r' rr =>
      cases rr
      cases r
      cases r'
      obtain ⟨its, rv, p1, _⟩ := I1.list hqx
      obtain ⟨its2, rv2, p2, _⟩ := I1.tuple hqy
      have la : a < s1.heap.objs.size := p1.lt
      have lb : b < s1.heap.objs.size := by obtain ⟨_, q, _⟩ := id p2; exact Heap.lt_size q
      refine zip_begins2 (begins_list a its.toArray) (begins_tuple b its2.toArray) p1.isList p2 fun h' hz hTI hTO h1 h2 hsz hk => args_nil ?_
      refine call_enumZ (s := { s1 with heap := h' }) hz fun h3 he hk3 => ?_
      replace he : IsEnum h3 h'.objs.size (s1.heap.objs.size + 4) 0 .none := he
      replace hk3 : ∀ b o, h'.get? b = some o → h3.get? b = some o := hk3
      refine wpAny_pyIter_enum (s := { s1 with heap := h3 }) he ?_
      have I2 : Inv X pins σ H1 { s1 with heap := h3 } := I1.kept (t' := s1.toks) fun b o y => hk3 b o (hk b o y)
      obtain ⟨S, n1, n2, m1, m2, m3, m4, m5⟩ := sepE s1.heap.objs.size a b la lb
      have fresh6 : ∀ c, c ∈ [s1.heap.objs.size + 5, s1.heap.objs.size + 4, s1.heap.objs.size + 2, s1.heap.objs.size + 3, s1.heap.objs.size, s1.heap.objs.size + 1] → FpOk X pins H1 c := fun c hcm => by
        have e' : c = s1.heap.objs.size + 5 ∨ c = s1.heap.objs.size + 4 ∨ c = s1.heap.objs.size + 2 ∨ c = s1.heap.objs.size + 3 ∨ c = s1.heap.objs.size ∨ c = s1.heap.objs.size + 1 := by simpa using hcm
        have hle : s1.heap.objs.size ≤ c := by
          rcases e' with z | z | z | z | z | z
          · rw [z]; exact Nat.le_add_right _ _
          · rw [z]; exact Nat.le_add_right _ _
          · rw [z]; exact Nat.le_add_right _ _
          · rw [z]; exact Nat.le_add_right _ _
          · rw [z]; exact Nat.le_refl _
          · rw [z]; exact Nat.le_add_right _ _
        exact I1.fpOk hle (I1.hok.fresh hle)
      show PIE X pins σ _ R (.ref h'.objs.size) _
      rw [hsz] at he ⊢
      exact ⟨s1.heap.objs.size + 5, [s1.heap.objs.size + 5, s1.heap.objs.size + 4, s1.heap.objs.size + 2, s1.heap.objs.size + 3, s1.heap.objs.size, s1.heap.objs.size + 1], _, _, H1, rfl, I2, turn_EZ S n1 n2 m1 m2 m3 m4 m5, ⟨⟨.none, he⟩, ⟨.none, false, hk3 _ _ hz, .inl rfl⟩, hk3 _ _ hTI, ⟨_, _, hk3 _ _ hTO⟩, ⟨_, hk3 _ _ h1, rfl, rfl⟩, ⟨_, hk3 _ _ h2, rfl, rfl⟩⟩, fresh6, q⟩
end EZ
namespace Z
open L2 PySem PySem.Spec PyProof.Rows
open Evl (Ex ex_l ex_t ex_rd fresh_back)
def dEnumZ (ta tb : DE) : DW := fun g Q => ta g fun x g1 => tb g1 fun y g2 => match x, y with
  | .val (.list xs), .val (.tuple ys) => Q (enD 0 (zipD xs ys)) g2
  | _, _ => False
section
variable {K : Fg}
theorem walkD_EZ {p q : Addr} {ds es : List Da} : WalkD K (EZ.ItEZ K p q) (enD 0 (zipD ds es)) [.ref q, .ref p] [.val (.tuple es), .val (.list ds)] := by
  have get : ∀ {F H : Hp} {a : Addr} {fu : Option Nat}, Ex F H → Tm K F a fu [.ref q, .ref p] [.val (.tuple es), .val (.list ds)] → ∃ xs ys, SqL K H p xs ∧ SqT K H q ys ∧ Rps K F xs ds ∧ Rps K F ys es := fun {F H a fu} e t => by
    cases t with
    | cons h t =>
      obtain ⟨v, e1, h2⟩ := t.v1
      cases e1
      have h' : Rp K F (.ref q) (.tuple es) := h
      cases h' with
      | tup sq m =>
        cases h2 with
        | lst sq2 m2 => exact ⟨_, _, .inl (.inl (e _ _ sq2)), ex_t e sq, m2, m⟩
  refine ⟨fun i F H a fu e t hi => ?_, fun F H a fu e t => ?_, fun i F H a fu x H' e t hi y => ?_⟩
  · obtain ⟨xs, ys, s1, s2, m1, m2⟩ := get e t
    rw [enD_len, zipD_len] at hi
    obtain ⟨v, h1, _⟩ := m1.get (List.getElem?_eq_getElem (show i < ds.length by omega))
    obtain ⟨w, h2, _⟩ := m2.get (List.getElem?_eq_getElem (show i < es.length by omega))
    exact ⟨xs, ys, v, w, s1, s2, h1, h2⟩
  · obtain ⟨xs, ys, s1, s2, m1, m2⟩ := get e t
    refine ⟨xs, ys, s1, s2, ?_⟩
    rw [enD_len, zipD_len, m1.len, m2.len]
    omega
  · obtain ⟨xs, ys, s1, s2, m1, m2⟩ := get e t
    obtain ⟨T, U, u, w, rfl, nT, nU, rfl, h1, h2⟩ := y
    rw [enD_len, zipD_len] at hi
    have g1 : ds[i]? = some ds[i] := List.getElem?_eq_getElem (by omega)
    have g2 : es[i]? = some es[i] := List.getElem?_eq_getElem (by omega)
    obtain ⟨u', e1, r1⟩ := m1.get g1
    obtain ⟨w', e2, r2⟩ := m2.get g2
    rw [h1 xs s1] at e1
    rw [h2 ys s2] at e2
    cases e1
    cases e2
    have gr := Gr.new (o := .tup [u, w]) e nT
    have gr2 := Gr.new (o := .tup [.int (i : Nat), .ref T]) gr.s nU
    have rT : Rp K _ (.ref T) (.tuple [ds[i], es[i]]) := .tup (.inl (.inl upd_same)) (.cons (r1.up gr.f) (.cons (r2.up gr.f) .nil))
    refine ⟨_, _, enD_get (zipD_get ds es i _ _ g1 g2), gr.trans gr2, ?_⟩
    rw [Int.zero_add]
    exact .tup (.inl (.inl upd_same)) (.cons (.int _) (.cons (rT.up gr2.f) .nil))
end
section
variable {X : Cx} {a b : Expr} {ta tb : DE} {p pos p2 pos2 tpos : Pos} {elts : List Expr} {kk : Nat}
theorem i_enumZ (hg : Gl X "enumerate") (hm : X.mg "enumerate" = none) (hg2 : Gl X "zip") (hm2 : X.mg "zip" = none) (ha : PE X a (up X.K ta)) (hb : PE X b (up X.K tb)) (hs : starEach [a, b] X.env = (false, eval a X.env) :: starEach [b] X.env := by rfl) (hs2 : starEach [b] X.env = (false, eval b X.env) :: starEach [] X.env := by rfl)
    (hpl : (backTo pos2 (starEach [b] X.env)).any (·.1) = false := by rfl)
    (na : starEach [.Call (.Name "zip" p2) [a, b] [] pos2] X.env = (false, eval (.Call (.Name "zip" p2) [a, b] [] pos2) X.env) :: starEach [] X.env := by rfl) :
    PI X (.Tuple elts kk tpos) (.Call (.Name "enumerate" p) [.Call (.Name "zip" p2) [a, b] [] pos2] [] pos) (upI X.K (dEnumZ ta tb)) := pi_to (EZ.pi_EZ hg hm hg2 hm2 (pa_cons ha (pa_cons hb pa_nil hs2) hs) hs hpl na) fun σ H R q => by
  obtain ⟨c, g, tv, tr, F, a, post, s, t, k⟩ := q
  refine ⟨c, g, tv, tr, F, a, _, s, t, fun r g1 v H1 F1 a1 t1 s1 => ?_⟩
  refine ⟨c, g1, _, _, F1, a1, _, s1, t1, fun r2 g2 v2 H2 F2 a2 t2 s2 => ?_⟩
  split at t2
  · rename_i xs ys
    have hr : Rp X.K F2 v (.list xs) := s2.pop1.top
    have hr2 : Rp X.K F2 v2 (.tuple ys) := s2.top
    cases hr with
    | lst q1 m1 =>
      cases hr2 with
      | tup q2 m2 => exact ⟨_, _, _, _, rfl, .inl (.inl (s2.eh _ _ q1)), ex_t s2.eh q2, k _ g2 H2 F2 a2 _ [_, _] [_, _] t2 s2 rfl rfl walkD_EZ⟩
  · exact t2.elim
end
end Z
namespace Z
open L2 PySem PySem.Spec PyProof.Rows
def dIfT (ta tb tc : DT) : DT := fun g Q => ta g fun b g1 => (b = true → tb g1 Q) ∧ (b = false → tc g1 Q)
section
variable {X : Cx} {a b c : Expr} {pos : Pos} {tA tB tC : L2.TT} {sa sb sc : DT}
theorem pt_ifT (hc : PT X c tA) (ha : PT X a tB) (hb : PT X b tC) : PT X (.IfExp c a b pos) (fun σ H Q => tA σ H fun d H1 => if d = true then tB σ H1 Q else tC σ H1 Q) := by
  refine ⟨fun pins s σ H Q I h => ?_⟩
  rw [isTrue.eq_def]
  dsimp only
  refine wpAny_bind (thn (hc.run pins s σ H _ I h) fun d s1 ⟨H1, I1, q1⟩ => ?_)
  cases d with
  | true => exact ha.run pins s1 σ H1 Q I1 q1
  | false => exact hb.run pins s1 σ H1 Q I1 q1
theorem t_if (h : PT X c (upT X.K sa)) (h1 : PT X a (upT X.K sb)) (h2 : PT X b (upT X.K sc)) : PT X (.IfExp c a b pos) (upT X.K (dIfT sa sb sc)) := pt_to (pt_ifT h h1 h2) fun σ H Q q => by
  obtain ⟨c, g, tv, tr, F, ad, post, s, t1, k⟩ := q
  refine ⟨c, g, tv, tr, F, ad, _, s, t1, fun b g1 H1 F1 a1 h1 s1 => ?_⟩
  cases b with
  | true => rw [if_pos rfl]; exact ⟨c, g1, tv, tr, F1, a1, _, s1, h1.1 rfl, k⟩
  | false => rw [if_neg Bool.false_ne_true]; exact ⟨c, g1, tv, tr, F1, a1, _, s1, h1.2 rfl, k⟩
end
end Z
namespace LAW
open Z L2 PySem PySem.Spec PyProof.Rows
open Evl (Ex ex_l ex_t ex_rd fresh_back)
def topS (i : Nat) : Stmt := PySem.Challenge.pw_stagedrounding_k19_two_chains_of_any_val.main.body.getD i (.Pass ⟨0, 0, 0, 0⟩)
abbrev st_DifferentWidths_init : Stmt := inClass (topS 3) 0
abbrev N_DifferentWidths_init : List Str := ["self"]
theorem sc_DifferentWidths_init : FnScope N_DifferentWidths_init ["self"] (defScope st_DifferentWidths_init) := ⟨rfl, rfl, rfl, by decide +kernel, rfl, by decide +kernel, by decide +kernel⟩
abbrev st_InvalidChain_init : Stmt := inClass (topS 2) 0
abbrev N_InvalidChain_init : List Str := ["self", "value"]
theorem sc_InvalidChain_init : FnScope N_InvalidChain_init ["self", "value"] (defScope st_InvalidChain_init) := ⟨rfl, rfl, rfl, by decide +kernel, rfl, by decide +kernel, by decide +kernel⟩
abbrev st_is_int : Stmt := topS 6
abbrev N_is_int : List Str := ["value", "least"]
theorem sc_is_int : FnScope N_is_int ["value", "least"] (defScope st_is_int) := ⟨rfl, rfl, rfl, by decide +kernel, rfl, by decide +kernel, by decide +kernel⟩
abbrev st_common_divisor : Stmt := topS 7
abbrev N_common_divisor : List Str := ["one", "other"]
theorem sc_common_divisor : FnScope N_common_divisor ["one", "other"] (defScope st_common_divisor) := ⟨rfl, rfl, rfl, by decide +kernel, rfl, by decide +kernel, by decide +kernel⟩
abbrev st_lowest : Stmt := topS 8
abbrev N_lowest : List Str := ["n", "d", "divisor"]
theorem sc_lowest : FnScope N_lowest ["n", "d"] (defScope st_lowest) := ⟨rfl, rfl, rfl, by decide +kernel, rfl, by decide +kernel, by decide +kernel⟩
abbrev st_is_width : Stmt := topS 9
abbrev N_is_width : List Str := ["value"]
theorem sc_is_width : FnScope N_is_width ["value"] (defScope st_is_width) := ⟨rfl, rfl, rfl, by decide +kernel, rfl, by decide +kernel, by decide +kernel⟩
abbrev st_is_rule : Stmt := topS 18
abbrev N_is_rule : List Str := ["value"]
theorem sc_is_rule : FnScope N_is_rule ["value"] (defScope st_is_rule) := ⟨rfl, rfl, rfl, by decide +kernel, rfl, by decide +kernel, by decide +kernel⟩
abbrev st_is_step : Stmt := topS 22
abbrev N_is_step : List Str := ["value"]
theorem sc_is_step : FnScope N_is_step ["value"] (defScope st_is_step) := ⟨rfl, rfl, rfl, by decide +kernel, rfl, by decide +kernel, by decide +kernel⟩
abbrev st_is_chain : Stmt := topS 23
abbrev N_is_chain : List Str := ["value", "step"]
theorem sc_is_chain : FnScope N_is_chain ["value"] (defScope st_is_chain) := ⟨rfl, rfl, rfl, by decide +kernel, rfl, by decide +kernel, by decide +kernel⟩
abbrev st_check_chain : Stmt := topS 24
abbrev N_check_chain : List Str := ["value"]
theorem sc_check_chain : FnScope N_check_chain ["value"] (defScope st_check_chain) := ⟨rfl, rfl, rfl, by decide +kernel, rfl, by decide +kernel, by decide +kernel⟩
abbrev st_last_width : Stmt := topS 25
abbrev N_last_width : List Str := ["chain", "width", "rule"]
theorem sc_last_width : FnScope N_last_width ["chain"] (defScope st_last_width) := ⟨rfl, rfl, rfl, by decide +kernel, rfl, by decide +kernel, by decide +kernel⟩
abbrev st_trimmed : Stmt := topS 26
abbrev N_trimmed : List Str := ["chain", "found", "least", "width", "rule"]
theorem sc_trimmed : FnScope N_trimmed ["chain"] (defScope st_trimmed) := ⟨rfl, rfl, rfl, by decide +kernel, rfl, by decide +kernel, by decide +kernel⟩
abbrev st_last_down : Stmt := topS 33
abbrev N_last_down : List Str := ["rule", "far", "parity", "t", "side", "parts", "index"]
theorem sc_last_down : FnScope N_last_down ["rule", "far", "parity"] (defScope st_last_down) := ⟨rfl, rfl, rfl, by decide +kernel, rfl, by decide +kernel, by decide +kernel⟩
abbrev st_combined : Stmt := topS 34
abbrev N_combined : List Str := ["pair", "rule", "far", "found", "parity", "index", "n", "d", "side"]
theorem sc_combined : FnScope N_combined ["pair", "rule", "far"] (defScope st_combined) := ⟨rfl, rfl, rfl, by decide +kernel, rfl, by decide +kernel, by decide +kernel⟩
abbrev st_thresholds : Stmt := topS 35
abbrev N_thresholds : List Str := ["chain", "steps", "width", "rule", "found", "narrower"]
theorem sc_thresholds : FnScope N_thresholds ["chain"] (defScope st_thresholds) := ⟨rfl, rfl, rfl, by decide +kernel, rfl, by decide +kernel, by decide +kernel⟩
abbrev st_check_chains : Stmt := topS 37
abbrev N_check_chains : List Str := ["one", "other"]
theorem sc_check_chains : FnScope N_check_chains ["one", "other"] (defScope st_check_chains) := ⟨rfl, rfl, rfl, by decide +kernel, rfl, by decide +kernel, by decide +kernel⟩
abbrev st_same : Stmt := topS 38
abbrev N_same : List Str := ["one", "other"]
theorem sc_same : FnScope N_same ["one", "other"] (defScope st_same) := ⟨rfl, rfl, rfl, by decide +kernel, rfl, by decide +kernel, by decide +kernel⟩
abbrev st_is_before : Stmt := topS 39
abbrev N_is_before : List Str := ["one", "other", "n", "d", "side", "m", "c", "other_side"]
theorem sc_is_before : FnScope N_is_before ["one", "other"] (defScope st_is_before) := ⟨rfl, rfl, rfl, by decide +kernel, rfl, by decide +kernel, by decide +kernel⟩
abbrev st_zone : Stmt := topS 40
abbrev N_zone : List Str := ["one", "other", "low", "high"]
theorem sc_zone : FnScope N_zone ["one", "other"] (defScope st_zone) := ⟨rfl, rfl, rfl, by decide +kernel, rfl, by decide +kernel, by decide +kernel⟩
abbrev st_zones : Stmt := topS 41
abbrev N_zones : List Str := ["one", "other", "pairs", "here", "there"]
theorem sc_zones : FnScope N_zones ["one", "other"] (defScope st_zones) := ⟨rfl, rfl, rfl, by decide +kernel, rfl, by decide +kernel, by decide +kernel⟩
abbrev st_first_part : Stmt := topS 42
abbrev N_first_part : List Str := ["span", "parts", "n", "d", "m", "c", "has_low", "has_high", "j"]
theorem sc_first_part : FnScope N_first_part ["span", "parts"] (defScope st_first_part) := ⟨rfl, rfl, rfl, by decide +kernel, rfl, by decide +kernel, by decide +kernel⟩
abbrev st_simplest_difference : Stmt := topS 43
abbrev N_simplest_difference : List Str := ["one", "other", "found", "start", "parts", "parity", "span", "j", "k"]
theorem sc_simplest_difference : FnScope N_simplest_difference ["one", "other"] (defScope st_simplest_difference) := ⟨rfl, rfl, rfl, by decide +kernel, rfl, by decide +kernel, by decide +kernel⟩
abbrev st__law_source : Stmt := topS 45
abbrev N__law_source : List Str := ["_law_script", "_law_k", "_law_given", "_law_digits"]
theorem sc__law_source : FnScope N__law_source ["_law_script", "_law_k"] (defScope st__law_source) := ⟨rfl, rfl, rfl, by decide +kernel, rfl, by decide +kernel, by decide +kernel⟩
abbrev st__law_draw : Stmt := topS 46
abbrev N__law_draw : List Str := ["_law_source_here", "_law_size", "_law_digit", "_law_turn", "_law_mixed"]
theorem sc__law_draw : FnScope N__law_draw ["_law_source_here", "_law_size"] (defScope st__law_draw) := ⟨rfl, rfl, rfl, by decide +kernel, rfl, by decide +kernel, by decide +kernel⟩
abbrev st__law_pick : Stmt := topS 47
abbrev N__law_pick : List Str := ["_law_source_here", "_law_some"]
theorem sc__law_pick : FnScope N__law_pick ["_law_source_here", "_law_some"] (defScope st__law_pick) := ⟨rfl, rfl, rfl, by decide +kernel, rfl, by decide +kernel, by decide +kernel⟩
abbrev st__law_rule : Stmt := topS 48
abbrev N__law_rule : List Str := ["_law_source_here"]
theorem sc__law_rule : FnScope N__law_rule ["_law_source_here"] (defScope st__law_rule) := ⟨rfl, rfl, rfl, by decide +kernel, rfl, by decide +kernel, by decide +kernel⟩
abbrev st__law_chain : Stmt := topS 49
abbrev N__law_chain : List Str := ["_law_source_here", "_law_last", "_law_most", "_law_far", "_law_found", "_law_turn", "_law_falling", "_law_width", "_law_rule_here"]
theorem sc__law_chain : FnScope N__law_chain ["_law_source_here", "_law_last", "_law_most", "_law_far"] (defScope st__law_chain) := ⟨rfl, rfl, rfl, by decide +kernel, rfl, by decide +kernel, by decide +kernel⟩
abbrev st__law_is_count : Stmt := topS 50
abbrev N__law_is_count : List Str := ["_law_value_here"]
theorem sc__law_is_count : FnScope N__law_is_count ["_law_value_here"] (defScope st__law_is_count) := ⟨rfl, rfl, rfl, by decide +kernel, rfl, by decide +kernel, by decide +kernel⟩
abbrev st__law_is_chain : Stmt := topS 51
abbrev N__law_is_chain : List Str := ["_law_value_here", "_law_step"]
theorem sc__law_is_chain : FnScope N__law_is_chain ["_law_value_here"] (defScope st__law_is_chain) := ⟨rfl, rfl, rfl, by decide +kernel, rfl, by decide +kernel, by decide +kernel⟩
abbrev st__law_least : Stmt := topS 52
abbrev N__law_least : List Str := ["_law_chain_here", "_law_width", "_law_rule_here"]
theorem sc__law_least : FnScope N__law_least ["_law_chain_here"] (defScope st__law_least) := ⟨rfl, rfl, rfl, by decide +kernel, rfl, by decide +kernel, by decide +kernel⟩
abbrev st__law_odd_value : Stmt := topS 53
abbrev N__law_odd_value : List Str := ["_law_source_here", "_law_some"]
theorem sc__law_odd_value : FnScope N__law_odd_value ["_law_source_here"] (defScope st__law_odd_value) := ⟨rfl, rfl, rfl, by decide +kernel, rfl, by decide +kernel, by decide +kernel⟩
abbrev st__law_value : Stmt := topS 54
abbrev N__law_value : List Str := ["_law_source_here", "_law_last", "_law_most", "_law_far"]
theorem sc__law_value : FnScope N__law_value ["_law_source_here", "_law_last", "_law_most", "_law_far"] (defScope st__law_value) := ⟨rfl, rfl, rfl, by decide +kernel, rfl, by decide +kernel, by decide +kernel⟩
abbrev st__law_caught : Stmt := topS 55
abbrev N__law_caught : List Str := ["_law_ask", "_law_found", "e"]
theorem sc__law_caught : FnScope N__law_caught ["_law_ask"] (defScope st__law_caught) := ⟨rfl, rfl, rfl, by decide +kernel, rfl, by decide +kernel, by decide +kernel⟩
abbrev st__law_due : Stmt := topS 56
abbrev N__law_due : List Str := ["_law_one", "_law_other", "_law_compares_widths"]
theorem sc__law_due : FnScope N__law_due ["_law_one", "_law_other", "_law_compares_widths"] (defScope st__law_due) := ⟨rfl, rfl, rfl, by decide +kernel, rfl, by decide +kernel, by decide +kernel⟩
abbrev st_law : Stmt := topS 57
abbrev N_law : List Str := ["_law_script", "_law_k", "_law_source_here", "_law_turn", "_law_one", "_law_other", "_law_found", "_law_at", "_law_told", "_law_compares_widths", "_law_due_here", "_law_back"]
theorem sc_law : FnScope N_law ["_law_script"] (defScope st_law) := ⟨rfl, rfl, rfl, by decide +kernel, rfl, by decide +kernel, by decide +kernel⟩
def tab_BY_RULE : Ru → Da
  | .dn => (.tuple [(.tuple [(.tuple [(.int 1), (.int 1)]), (.str "up")]), (.tuple [(.tuple [(.int 1), (.int 1)]), (.str "up")])])
  | .hd => (.tuple [(.tuple [(.tuple [(.int 1), (.int 2)]), (.str "down")]), (.tuple [(.tuple [(.int 1), (.int 2)]), (.str "down")])])
  | .he => (.tuple [(.tuple [(.tuple [(.int 1), (.int 2)]), (.str "down")]), (.tuple [(.tuple [(.int 1), (.int 2)]), (.str "up")])])
  | .hu => (.tuple [(.tuple [(.tuple [(.int 1), (.int 2)]), (.str "up")]), (.tuple [(.tuple [(.int 1), (.int 2)]), (.str "up")])])
  | .od => (.tuple [(.tuple [(.tuple [(.int 0), (.int 1)]), (.str "down")]), (.tuple [(.tuple [(.int 1), (.int 1)]), (.str "up")])])
  | .up => (.tuple [(.tuple [(.tuple [(.int 0), (.int 1)]), (.str "down")]), (.tuple [(.tuple [(.int 0), (.int 1)]), (.str "down")])])
structure Tx (w : World) (K : Fg) (mg : Str → Option Value) where
  f_DifferentWidths_init : Addr
  fd_DifferentWidths_init : FuncData
  F_DifferentWidths_init : Fun K "__init__" "DifferentWidths.__init__" st_DifferentWidths_init f_DifferentWidths_init fd_DifferentWidths_init
  b_DifferentWidths_init : Binds K fd_DifferentWidths_init ["self"] []
  f_InvalidChain_init : Addr
  fd_InvalidChain_init : FuncData
  F_InvalidChain_init : Fun K "__init__" "InvalidChain.__init__" st_InvalidChain_init f_InvalidChain_init fd_InvalidChain_init
  b_InvalidChain_init : Binds K fd_InvalidChain_init ["self", "value"] []
  f_is_int : Addr
  fd_is_int : FuncData
  F_is_int : Fun K "is_int" "is_int" st_is_int f_is_int fd_is_int
  b_is_int : Binds K fd_is_int ["value", "least"] []
  g_is_int : mg "is_int" = some (.ref f_is_int)
  f_common_divisor : Addr
  fd_common_divisor : FuncData
  F_common_divisor : Fun K "common_divisor" "common_divisor" st_common_divisor f_common_divisor fd_common_divisor
  b_common_divisor : Binds K fd_common_divisor ["one", "other"] []
  g_common_divisor : mg "common_divisor" = some (.ref f_common_divisor)
  f_lowest : Addr
  fd_lowest : FuncData
  F_lowest : Fun K "lowest" "lowest" st_lowest f_lowest fd_lowest
  b_lowest : Binds K fd_lowest ["n", "d"] []
  g_lowest : mg "lowest" = some (.ref f_lowest)
  f_is_width : Addr
  fd_is_width : FuncData
  F_is_width : Fun K "is_width" "is_width" st_is_width f_is_width fd_is_width
  b_is_width : Binds K fd_is_width ["value"] []
  g_is_width : mg "is_width" = some (.ref f_is_width)
  f_is_rule : Addr
  fd_is_rule : FuncData
  F_is_rule : Fun K "is_rule" "is_rule" st_is_rule f_is_rule fd_is_rule
  b_is_rule : Binds K fd_is_rule ["value"] []
  g_is_rule : mg "is_rule" = some (.ref f_is_rule)
  f_is_step : Addr
  fd_is_step : FuncData
  F_is_step : Fun K "is_step" "is_step" st_is_step f_is_step fd_is_step
  b_is_step : Binds K fd_is_step ["value"] []
  g_is_step : mg "is_step" = some (.ref f_is_step)
  f_is_chain : Addr
  fd_is_chain : FuncData
  F_is_chain : Fun K "is_chain" "is_chain" st_is_chain f_is_chain fd_is_chain
  b_is_chain : Binds K fd_is_chain ["value"] []
  g_is_chain : mg "is_chain" = some (.ref f_is_chain)
  f_check_chain : Addr
  fd_check_chain : FuncData
  F_check_chain : Fun K "check_chain" "check_chain" st_check_chain f_check_chain fd_check_chain
  b_check_chain : Binds K fd_check_chain ["value"] []
  g_check_chain : mg "check_chain" = some (.ref f_check_chain)
  f_last_width : Addr
  fd_last_width : FuncData
  F_last_width : Fun K "last_width" "last_width" st_last_width f_last_width fd_last_width
  b_last_width : Binds K fd_last_width ["chain"] []
  g_last_width : mg "last_width" = some (.ref f_last_width)
  f_trimmed : Addr
  fd_trimmed : FuncData
  F_trimmed : Fun K "trimmed" "trimmed" st_trimmed f_trimmed fd_trimmed
  b_trimmed : Binds K fd_trimmed ["chain"] []
  g_trimmed : mg "trimmed" = some (.ref f_trimmed)
  f_last_down : Addr
  fd_last_down : FuncData
  F_last_down : Fun K "last_down" "last_down" st_last_down f_last_down fd_last_down
  b_last_down : Binds K fd_last_down ["rule", "far", "parity"] []
  g_last_down : mg "last_down" = some (.ref f_last_down)
  f_combined : Addr
  fd_combined : FuncData
  F_combined : Fun K "combined" "combined" st_combined f_combined fd_combined
  b_combined : Binds K fd_combined ["pair", "rule", "far"] []
  g_combined : mg "combined" = some (.ref f_combined)
  f_thresholds : Addr
  fd_thresholds : FuncData
  F_thresholds : Fun K "thresholds" "thresholds" st_thresholds f_thresholds fd_thresholds
  b_thresholds : Binds K fd_thresholds ["chain"] []
  g_thresholds : mg "thresholds" = some (.ref f_thresholds)
  f_check_chains : Addr
  fd_check_chains : FuncData
  F_check_chains : Fun K "check_chains" "check_chains" st_check_chains f_check_chains fd_check_chains
  b_check_chains : Binds K fd_check_chains ["one", "other"] []
  g_check_chains : mg "check_chains" = some (.ref f_check_chains)
  f_same : Addr
  fd_same : FuncData
  F_same : Fun K "same" "same" st_same f_same fd_same
  b_same : Binds K fd_same ["one", "other"] []
  g_same : mg "same" = some (.ref f_same)
  f_is_before : Addr
  fd_is_before : FuncData
  F_is_before : Fun K "is_before" "is_before" st_is_before f_is_before fd_is_before
  b_is_before : Binds K fd_is_before ["one", "other"] []
  g_is_before : mg "is_before" = some (.ref f_is_before)
  f_zone : Addr
  fd_zone : FuncData
  F_zone : Fun K "zone" "zone" st_zone f_zone fd_zone
  b_zone : Binds K fd_zone ["one", "other"] []
  g_zone : mg "zone" = some (.ref f_zone)
  f_zones : Addr
  fd_zones : FuncData
  F_zones : Fun K "zones" "zones" st_zones f_zones fd_zones
  b_zones : Binds K fd_zones ["one", "other"] []
  g_zones : mg "zones" = some (.ref f_zones)
  f_first_part : Addr
  fd_first_part : FuncData
  F_first_part : Fun K "first_part" "first_part" st_first_part f_first_part fd_first_part
  b_first_part : Binds K fd_first_part ["span", "parts"] []
  g_first_part : mg "first_part" = some (.ref f_first_part)
  f_simplest_difference : Addr
  fd_simplest_difference : FuncData
  F_simplest_difference : Fun K "simplest_difference" "simplest_difference" st_simplest_difference f_simplest_difference fd_simplest_difference
  b_simplest_difference : Binds K fd_simplest_difference ["one", "other"] []
  g_simplest_difference : mg "simplest_difference" = some (.ref f_simplest_difference)
  f__law_source : Addr
  fd__law_source : FuncData
  F__law_source : Fun K "_law_source" "_law_source" st__law_source f__law_source fd__law_source
  b__law_source : Binds K fd__law_source ["_law_script", "_law_k"] []
  g__law_source : mg "_law_source" = some (.ref f__law_source)
  f__law_draw : Addr
  fd__law_draw : FuncData
  F__law_draw : Fun K "_law_draw" "_law_draw" st__law_draw f__law_draw fd__law_draw
  b__law_draw : Binds K fd__law_draw ["_law_source_here", "_law_size"] []
  g__law_draw : mg "_law_draw" = some (.ref f__law_draw)
  f__law_pick : Addr
  fd__law_pick : FuncData
  F__law_pick : Fun K "_law_pick" "_law_pick" st__law_pick f__law_pick fd__law_pick
  b__law_pick : Binds K fd__law_pick ["_law_source_here", "_law_some"] []
  g__law_pick : mg "_law_pick" = some (.ref f__law_pick)
  f__law_rule : Addr
  fd__law_rule : FuncData
  F__law_rule : Fun K "_law_rule" "_law_rule" st__law_rule f__law_rule fd__law_rule
  b__law_rule : Binds K fd__law_rule ["_law_source_here"] []
  g__law_rule : mg "_law_rule" = some (.ref f__law_rule)
  f__law_chain : Addr
  fd__law_chain : FuncData
  F__law_chain : Fun K "_law_chain" "_law_chain" st__law_chain f__law_chain fd__law_chain
  b__law_chain : Binds K fd__law_chain ["_law_source_here", "_law_last", "_law_most", "_law_far"] []
  g__law_chain : mg "_law_chain" = some (.ref f__law_chain)
  f__law_is_count : Addr
  fd__law_is_count : FuncData
  F__law_is_count : Fun K "_law_is_count" "_law_is_count" st__law_is_count f__law_is_count fd__law_is_count
  b__law_is_count : Binds K fd__law_is_count ["_law_value_here"] []
  g__law_is_count : mg "_law_is_count" = some (.ref f__law_is_count)
  f__law_is_chain : Addr
  fd__law_is_chain : FuncData
  F__law_is_chain : Fun K "_law_is_chain" "_law_is_chain" st__law_is_chain f__law_is_chain fd__law_is_chain
  b__law_is_chain : Binds K fd__law_is_chain ["_law_value_here"] []
  g__law_is_chain : mg "_law_is_chain" = some (.ref f__law_is_chain)
  f__law_least : Addr
  fd__law_least : FuncData
  F__law_least : Fun K "_law_least" "_law_least" st__law_least f__law_least fd__law_least
  b__law_least : Binds K fd__law_least ["_law_chain_here"] []
  g__law_least : mg "_law_least" = some (.ref f__law_least)
  f__law_odd_value : Addr
  fd__law_odd_value : FuncData
  F__law_odd_value : Fun K "_law_odd_value" "_law_odd_value" st__law_odd_value f__law_odd_value fd__law_odd_value
  b__law_odd_value : Binds K fd__law_odd_value ["_law_source_here"] []
  g__law_odd_value : mg "_law_odd_value" = some (.ref f__law_odd_value)
  f__law_value : Addr
  fd__law_value : FuncData
  F__law_value : Fun K "_law_value" "_law_value" st__law_value f__law_value fd__law_value
  b__law_value : Binds K fd__law_value ["_law_source_here", "_law_last", "_law_most", "_law_far"] []
  g__law_value : mg "_law_value" = some (.ref f__law_value)
  f__law_caught : Addr
  fd__law_caught : FuncData
  F__law_caught : Fun K "_law_caught" "_law_caught" st__law_caught f__law_caught fd__law_caught
  b__law_caught : Binds K fd__law_caught ["_law_ask"] []
  g__law_caught : mg "_law_caught" = some (.ref f__law_caught)
  f__law_due : Addr
  fd__law_due : FuncData
  F__law_due : Fun K "_law_due" "_law_due" st__law_due f__law_due fd__law_due
  b__law_due : Binds K fd__law_due ["_law_one", "_law_other", "_law_compares_widths"] []
  g__law_due : mg "_law_due" = some (.ref f__law_due)
  f_law : Addr
  fd_law : FuncData
  F_law : Fun K "law" "law" st_law f_law fd_law
  b_law : Binds K fd_law ["_law_script"] []
  g_law : mg "law" = some (.ref f_law)
  c_tab_law : Addr
  P_tab_law : Addr
  tab_law : PySem.W.tabIn K "law" = some (c_tab_law, P_tab_law)
  code_law : fd_law.code = .ref c_tab_law
  C_RoundingError : Addr
  g_RoundingError : mg "RoundingError" = some (.ref C_RoundingError)
  bc : BaseC K C_RoundingError
  C_DifferentWidths : Addr
  g_DifferentWidths : mg "DifferentWidths" = some (.ref C_DifferentWidths)
  xi_DifferentWidths : Xc0I K "DifferentWidths" C_DifferentWidths f_DifferentWidths_init
  C_InvalidChain : Addr
  g_InvalidChain : mg "InvalidChain" = some (.ref C_InvalidChain)
  xv_InvalidChain : XcV K "InvalidChain" C_InvalidChain f_InvalidChain_init
  hx_DifferentWidths : ∀ nm ∈ (["DifferentWidths", "InvalidChain"] : List Str), ∃ D : Addr, PySem.W.nsIn K mainGlobals nm = some (some (.ref D)) ∧ PySem.W.exmOne K (.ref D) (.ref C_DifferentWidths) = some (xsub nm "DifferentWidths")
  hx_InvalidChain : ∀ nm ∈ (["DifferentWidths", "InvalidChain"] : List Str), ∃ D : Addr, PySem.W.nsIn K mainGlobals nm = some (some (.ref D)) ∧ PySem.W.exmOne K (.ref D) (.ref C_InvalidChain) = some (xsub nm "InvalidChain")
  hv : ∀ nm ∈ (["InvalidChain"] : List Str), XvC K nm
  n_abs : mg "abs" = none
  n_all : mg "all" = none
  n_bool : mg "bool" = none
  n_enumerate : mg "enumerate" = none
  n_int : mg "int" = none
  n_isinstance : mg "isinstance" = none
  n_len : mg "len" = none
  n_list : mg "list" = none
  n_min : mg "min" = none
  n_range : mg "range" = none
  n_repr : mg "repr" = none
  n_sorted : mg "sorted" = none
  n_str : mg "str" = none
  n_tuple : mg "tuple" = none
  n_zip : mg "zip" = none
  ra_BY_RULE : Addr
  c_BY_RULE : mg "BY_RULE" = some (.ref ra_BY_RULE)
  k_BY_RULE : ∀ ru : Ru, ∃ v, KDct K w ra_BY_RULE ru.s v ∧ ∀ F, Rp K F v (tab_BY_RULE ru)
  u_DOWN : Value
  w_DOWN : V
  c_DOWN : mg "DOWN" = some u_DOWN
  v_DOWN : RelV w_DOWN u_DOWN
  r_DOWN : ∀ F, Rp K F w_DOWN (.str "down")
  u_MOST_STEPS : Value
  w_MOST_STEPS : V
  c_MOST_STEPS : mg "MOST_STEPS" = some u_MOST_STEPS
  v_MOST_STEPS : RelV w_MOST_STEPS u_MOST_STEPS
  r_MOST_STEPS : ∀ F, Rp K F w_MOST_STEPS (.int 12)
  u_MOST_WIDTH : Value
  w_MOST_WIDTH : V
  c_MOST_WIDTH : mg "MOST_WIDTH" = some u_MOST_WIDTH
  v_MOST_WIDTH : RelV w_MOST_WIDTH u_MOST_WIDTH
  r_MOST_WIDTH : ∀ F, Rp K F w_MOST_WIDTH (.int 100)
  u_PAIR : Value
  w_PAIR : V
  c_PAIR : mg "PAIR" = some u_PAIR
  v_PAIR : RelV w_PAIR u_PAIR
  r_PAIR : ∀ F, Rp K F w_PAIR (.int 2)
  u_RULES : Value
  w_RULES : V
  c_RULES : mg "RULES" = some u_RULES
  v_RULES : RelV w_RULES u_RULES
  r_RULES : ∀ F, Rp K F w_RULES (.tuple [(.str "down"), (.str "half_down"), (.str "half_even"), (.str "half_up"), (.str "odd"), (.str "up")])
  u_UP : Value
  w_UP : V
  c_UP : mg "UP" = some u_UP
  v_UP : RelV w_UP u_UP
  r_UP : ∀ F, Rp K F w_UP (.str "up")
theorem lamne_law {w : World} {K : Fg} {mg : Str → Option Value} (T : Tx w K mg) : ∀ y (c2 P2 : Addr), y ∈ LAM → PySem.W.tabIn K y = some (c2, P2) → y = "law" ∨ P2 ≠ T.P_tab_law := fun y c P h _ => .inl (List.mem_singleton.mp h)
section
variable {P : Program} {w : World} {K : Fg} {mg : Str → Option Value} {base : Heap}
theorem ok_DifferentWidths_init (T : Tx w K mg) : Fn P w K mg base CX0 2 T.f_DifferentWidths_init T.fd_DifferentWidths_init ["self"] (spX0 K) := fn_xinit0 T.F_DifferentWidths_init sc_DifferentWidths_init T.bc T.g_RoundingError rfl rfl rfl (fun env => ⟨_, rfl⟩)
end
section
variable {P : Program} {w : World} {K : Fg} {mg : Str → Option Value} {base : Heap}
theorem ok_InvalidChain_init (T : Tx w K mg) : Fn P w K mg base CX0 2 T.f_InvalidChain_init T.fd_InvalidChain_init ["self", "value"] (spXi K) := fn_xinit T.F_InvalidChain_init sc_InvalidChain_init T.bc T.g_RoundingError (by decide) rfl rfl rfl rfl (fun env => ⟨_, rfl⟩)
end
def b_is_int : DS :=
  (dRet (dAndV (dIsi "int" (dVar 0)) (dAndV (dNotV (dIsi "bool" (dVar 0))) (dBin oGe (dVar 0) (dVar 1)))))
/-- value is an int, no bool, at least m -/
def isInt (d : Da) (m : Int) : Bool := match d with
  | .int i => decide (m ≤ i)
  | _ => false
def fs_is_int : FSp := fun rs fu post => ∃ d m, rs = [.val d, .val (.int m)] ∧ post (.val (.bool (isInt d m))) fu
theorem p_is_int (rs : List Rv) (fu : Option Nat) (post : Rr → Option Nat → Prop) (hl : rs.length = 2) (h : fs_is_int rs fu post) : b_is_int ⟨fun g => post (.val .none) g.fu, fun r g => post r g.fu, fun _ => False, fun _ => False⟩ (ent N_is_int rs fu) := by
  obtain ⟨d, m, rfl, h⟩ := h
  cases d <;> (simp only [↓dSeq,↓dAsg,↓dSetL,↓dNext,↓dIfS,↓dRet,↓dRetL,↓dDrop,↓dNever,↓dAug,↓dPar,↓dParL,↓dApp,↓dVar,↓dC,↓dBin,↓fI,↓fI0,↓fAdd,↓fEq,↓fNe,↓fIn,↓dTest,↓dAndT,↓dOrT,↓dNotT,↓dAndV,↓dOrV,↓dNotV,↓dIf,↓dIsN,↓dChain,↓dNil,↓dCons,↓dTup,↓dLst,↓dFz,↓valsD,↓dIx,↓dCall,↓dCallL,↓hasSrc,↓rrv,↓dN,↓dT,↓dTn,↓dTc,↓rsv,↓Gs.set,↓dFor,↓dItems,↓dRange1,↓dLc,↓dCB,↓cLen,↓cAll,↓cTuple,↓cInt1,↓cInt2,↓dIsi,↓dSetS,↓oSub,↓oAddI,↓oMul,↓oDiv,↓oMod,↓oShl,↓oPow,↓oLt,↓oLe,↓oGt,↓oGe,↓oAbs,↓oMin,↓cMinL,↓cSortedD,↓dSl,↓oNo,↓oSo,↓dBy,↓dD0,↓cLZ,↓dEnum,↓fMulT,↓cReprX,↓dRaise,↓dRaise0,↓dStop,↓dDropX,↓dAsgX,↓dTup2X,↓dCallX,↓dXval,↓dTry,↓dHand,↓dAs,↓gAs,↓Gs.unset,↓rtN,↓dLam,↓dAct,↓lamF,↓gLam,↓plainO,↓Z.isNon,↓dIfT,b_is_int,ent,svOf,List.map_cons,List.map_nil,List.cons_append,List.nil_append,List.append_nil,List.replicate,List.length_cons,List.length_nil,List.getElem?_cons_zero,List.getElem?_cons_succ,List.getElem?_nil,List.set_cons_zero,List.set_cons_succ,Option.map_some,Option.map_none,Option.isNone_some,Option.isNone_none,forall_const,true_implies,false_implies,and_true,true_and,Bool.true_eq_false,Bool.false_eq_true,reduceCtorEq,noOwn,wipeS,hide,fuN_self,lcD,dYes,Nat.zero_add,Nat.reduceAdd,Nat.reduceLeDiff,Nat.reduceSub,atI_0,atI_1,atI_2,atI_3,atI_4,atI_5,Int.one_mul,eqv_ii,eqv_ss,eqv_num,shaped_int,shaped_num,shaped_none,shaped_ru,flat_str,flat_int,flat_none,List.all_cons,List.all_nil,Bool.and_true,decide_eq_true_eq,decide_eq_false_iff_not,Bool.not_eq_true',Bool.not_eq_false',Decidable.not_not,↓reduceIte,Bool.false_eq_true,Int.reduceLT,eqv_strs,pick_0,pick_01,pick_10,pick_012,pick_021,pick_102,pick_120,pick_201,pick_210]; simp_all [isInt, isTy])
theorem isInt_some {d : Da} {m : Int} (h : isInt d m = true) : ∃ i, d = .int i ∧ m ≤ i := by
  cases d with
  | int i => exact ⟨i, rfl, of_decide_eq_true h⟩
  | _ => cases h
section
variable {P : Program} {w : World} {K : Fg} {mg : Str → Option Value} {base : Heap}
theorem d_is_int (T : Tx w K mg) {cdv : Value} {A : Around} {outer : List Env} {s : Shared} {H : Hp} {E : XK} (hr : Room 0 (A.deeper (envOfC "is_int" (defScope st_is_int) s.heap.objs.size T.f_is_int cdv))) (hgd : (A.deeper (envOfC "is_int" (defScope st_is_int) s.heap.objs.size T.f_is_int cdv)).guards = some []) :
    PSs (cxOf CX0 P w K mg base N_is_int "is_int" (defScope st_is_int) T.f_is_int cdv A outer s H E).nox (defBody st_is_int) (upS K W0 b_is_int) :=
  (ss_one (s_ret (e_and (e_isi kit_int (by rfl) T.n_isinstance (e_var 0 (pv 0)) (c_ty (by rfl) T.n_int (by decide +kernel))) (e_and (e_not (e_isi kit_bool (by rfl) T.n_isinstance (e_var 0 (pv 0)) (c_ty (by rfl) T.n_bool (by decide +kernel)))) (e_one (e_ge (e_var 0 (pv 0)) (e_var 1 (pv 1))))))))
theorem ok_is_int (T : Tx w K mg) : Fn P w K mg base CX0 1 T.f_is_int T.fd_is_int ["value", "least"] (lift K 2 fs_is_int) := fn_data T.F_is_int sc_is_int b_is_int (fun _ _ _ _ _ _ hr hgd => d_is_int T hr hgd) p_is_int
end
def b_common_divisor : DS :=
  (dSeq (dWhile (dTest (dBin fNe (dVar 1) (dC (.int 0))))
    (dPar 0 1 (dVar 1) (dBin oMod (dVar 0) (dVar 1))))
  (dRet (dVar 0)))
def fs_common_divisor : FSp := fun rs fu post => ∃ a b : Int, rs = [.val (.int a), .val (.int b)] ∧ 0 ≤ a ∧ 0 ≤ b ∧ post (.val (.int (Int.gcd a b))) fu
theorem p_common_divisor (rs : List Rv) (fu : Option Nat) (post : Rr → Option Nat → Prop) (hl : rs.length = 2) (h : fs_common_divisor rs fu post) : b_common_divisor ⟨fun g => post (.val .none) g.fu, fun r g => post r g.fu, fun _ => False, fun _ => False⟩ (ent N_common_divisor rs fu) := by
  obtain ⟨a, b, rfl, ha, hb, h⟩ := h
  simp only [↓dSeq,↓dAsg,↓dSetL,↓dNext,↓dIfS,↓dRet,↓dRetL,↓dDrop,↓dNever,↓dAug,↓dPar,↓dParL,↓dApp,↓dVar,↓dC,↓dBin,↓fI,↓fI0,↓fAdd,↓fEq,↓fNe,↓fIn,↓dTest,↓dAndT,↓dOrT,↓dNotT,↓dAndV,↓dOrV,↓dNotV,↓dIf,↓dIsN,↓dChain,↓dNil,↓dCons,↓dTup,↓dLst,↓dFz,↓valsD,↓dIx,↓dCall,↓dCallL,↓hasSrc,↓rrv,↓dN,↓dT,↓dTn,↓dTc,↓rsv,↓Gs.set,↓dFor,↓dItems,↓dRange1,↓dLc,↓dCB,↓cLen,↓cAll,↓cTuple,↓cInt1,↓cInt2,↓dIsi,↓dSetS,↓oSub,↓oAddI,↓oMul,↓oDiv,↓oMod,↓oShl,↓oPow,↓oLt,↓oLe,↓oGt,↓oGe,↓oAbs,↓oMin,↓cMinL,↓cSortedD,↓dSl,↓oNo,↓oSo,↓dBy,↓dD0,↓cLZ,↓dEnum,↓fMulT,↓cReprX,↓dRaise,↓dRaise0,↓dStop,↓dDropX,↓dAsgX,↓dTup2X,↓dCallX,↓dXval,↓dTry,↓dHand,↓dAs,↓gAs,↓Gs.unset,↓rtN,↓dLam,↓dAct,↓lamF,↓gLam,↓plainO,↓Z.isNon,↓dIfT,b_common_divisor,ent,svOf,List.map_cons,List.map_nil,List.cons_append,List.nil_append,List.append_nil,List.replicate,List.length_cons,List.length_nil,List.getElem?_cons_zero,List.getElem?_cons_succ,List.getElem?_nil,List.set_cons_zero,List.set_cons_succ,Option.map_some,Option.map_none,Option.isNone_some,Option.isNone_none,forall_const,true_implies,false_implies,and_true,true_and,Bool.true_eq_false,Bool.false_eq_true,reduceCtorEq,noOwn,wipeS,hide,fuN_self,lcD,dYes,Nat.zero_add,Nat.reduceAdd,Nat.reduceLeDiff,Nat.reduceSub,atI_0,atI_1,atI_2,atI_3,atI_4,atI_5,Int.one_mul,eqv_ii,eqv_ss,eqv_num,shaped_int,shaped_num,shaped_none,shaped_ru,flat_str,flat_int,flat_none,List.all_cons,List.all_nil,Bool.and_true,decide_eq_true_eq,decide_eq_false_iff_not,Bool.not_eq_true',Bool.not_eq_false',Decidable.not_not,↓reduceIte,Bool.false_eq_true,Int.reduceLT,eqv_strs,pick_0,pick_01,pick_10,pick_012,pick_021,pick_102,pick_120,pick_201,pick_210]
  refine ⟨fun m g => ∃ x y : Int, g = ⟨[some (.val (.int x)), some (.val (.int y))], fu, fu.isNone⟩ ∧ 0 ≤ x ∧ 0 ≤ y ∧ y.toNat = m ∧ Int.gcd x y = Int.gcd a b, ⟨b.toNat, a, b, rfl, ha, hb, rfl, rfl⟩, fun m g hg => ?_⟩
  obtain ⟨x, y, rfl, hx, hy, rfl, e⟩ := hg
  simp only [↓dSeq,↓dAsg,↓dSetL,↓dNext,↓dIfS,↓dRet,↓dRetL,↓dDrop,↓dNever,↓dAug,↓dPar,↓dParL,↓dApp,↓dVar,↓dC,↓dBin,↓fI,↓fI0,↓fAdd,↓fEq,↓fNe,↓fIn,↓dTest,↓dAndT,↓dOrT,↓dNotT,↓dAndV,↓dOrV,↓dNotV,↓dIf,↓dIsN,↓dChain,↓dNil,↓dCons,↓dTup,↓dLst,↓dFz,↓valsD,↓dIx,↓dCall,↓dCallL,↓hasSrc,↓rrv,↓dN,↓dT,↓dTn,↓dTc,↓rsv,↓Gs.set,↓dFor,↓dItems,↓dRange1,↓dLc,↓dCB,↓cLen,↓cAll,↓cTuple,↓cInt1,↓cInt2,↓dIsi,↓dSetS,↓oSub,↓oAddI,↓oMul,↓oDiv,↓oMod,↓oShl,↓oPow,↓oLt,↓oLe,↓oGt,↓oGe,↓oAbs,↓oMin,↓cMinL,↓cSortedD,↓dSl,↓oNo,↓oSo,↓dBy,↓dD0,↓cLZ,↓dEnum,↓fMulT,↓cReprX,↓dRaise,↓dRaise0,↓dStop,↓dDropX,↓dAsgX,↓dTup2X,↓dCallX,↓dXval,↓dTry,↓dHand,↓dAs,↓gAs,↓Gs.unset,↓rtN,↓dLam,↓dAct,↓lamF,↓gLam,↓plainO,↓Z.isNon,↓dIfT,ent,svOf,List.map_cons,List.map_nil,List.cons_append,List.nil_append,List.append_nil,List.replicate,List.length_cons,List.length_nil,List.getElem?_cons_zero,List.getElem?_cons_succ,List.getElem?_nil,List.set_cons_zero,List.set_cons_succ,Option.map_some,Option.map_none,Option.isNone_some,Option.isNone_none,forall_const,true_implies,false_implies,and_true,true_and,Bool.true_eq_false,Bool.false_eq_true,reduceCtorEq,noOwn,wipeS,hide,fuN_self,lcD,dYes,Nat.zero_add,Nat.reduceAdd,Nat.reduceLeDiff,Nat.reduceSub,atI_0,atI_1,atI_2,atI_3,atI_4,atI_5,Int.one_mul,eqv_ii,eqv_ss,eqv_num,shaped_int,shaped_num,shaped_none,shaped_ru,flat_str,flat_int,flat_none,List.all_cons,List.all_nil,Bool.and_true,decide_eq_true_eq,decide_eq_false_iff_not,Bool.not_eq_true',Bool.not_eq_false',Decidable.not_not,↓reduceIte,Bool.false_eq_true,Int.reduceLT,eqv_strs,pick_0,pick_01,pick_10,pick_012,pick_021,pick_102,pick_120,pick_201,pick_210]
  refine ⟨fun hne => ?_, fun heq => ?_⟩
  · have hy0 : 0 < y := by omega
    refine ⟨hy0, (x % y).toNat, ?_, y, x % y, rfl, hy, Int.emod_nonneg _ (by omega), rfl, by rw [gcd_step hx hy0, e]⟩
    have := Int.emod_lt_of_pos x hy0
    have := Int.emod_nonneg x (show y ≠ 0 by omega)
    omega
  · subst heq
    rw [Int.gcd_zero_right] at e
    have : x = ((Int.gcd a b : Nat) : Int) := by omega
    rw [this]
    exact h
section
variable {P : Program} {w : World} {K : Fg} {mg : Str → Option Value} {base : Heap}
theorem d_common_divisor (T : Tx w K mg) {cdv : Value} {A : Around} {outer : List Env} {s : Shared} {H : Hp} {E : XK} (hr : Room 0 (A.deeper (envOfC "common_divisor" (defScope st_common_divisor) s.heap.objs.size T.f_common_divisor cdv))) (hgd : (A.deeper (envOfC "common_divisor" (defScope st_common_divisor) s.heap.objs.size T.f_common_divisor cdv)).guards = some []) :
    PSs (cxOf CX0 P w K mg base N_common_divisor "common_divisor" (defScope st_common_divisor) T.f_common_divisor cdv A outer s H E).nox (defBody st_common_divisor) (upS K W0 b_common_divisor) :=
  (ss_cons (s_while PassesOwn.never (t_ne hr.units (e_var 1 (pv 1)) e_int) (ss_one (s_par (i := 0) (j := 1) rfl sc_common_divisor.nd rfl rfl (by decide) rfl rfl (e_var 1 (pv 1)) (e_mod (e_var 0 (pv 0)) (e_var 1 (pv 1))))))
    (ss_one (s_ret (e_var 0 (pv 0)))))
theorem ok_common_divisor (T : Tx w K mg) : Fn P w K mg base CX0 1 T.f_common_divisor T.fd_common_divisor ["one", "other"] (lift K 2 fs_common_divisor) := fn_data T.F_common_divisor sc_common_divisor b_common_divisor (fun _ _ _ _ _ _ hr hgd => d_common_divisor T hr hgd) p_common_divisor
end
def b_lowest : DS :=
  (dSeq (dAsg (dCall 2 fs_common_divisor (dCons (dVar 0) (dCons (dVar 1) dNil))) (dN 2))
  (dRet (dTup (dCons (dBin oDiv (dVar 0) (dVar 2)) (dCons (dBin oDiv (dVar 1) (dVar 2)) dNil)))))
def fs_lowest : FSp := fun rs fu post => ∃ n d : Int, rs = [.val (.int n), .val (.int d)] ∧ 0 ≤ n ∧ 0 < d ∧ Bn 9000 d ∧ post (.val (lowD n d)) fu
theorem p_lowest (rs : List Rv) (fu : Option Nat) (post : Rr → Option Nat → Prop) (hl : rs.length = 2) (h : fs_lowest rs fu post) : b_lowest ⟨fun g => post (.val .none) g.fu, fun r g => post r g.fu, fun _ => False, fun _ => False⟩ (ent N_lowest rs fu) := by
  obtain ⟨n, d, rfl, hn, hd, hs, h⟩ := h
  simp only [↓dSeq,↓dAsg,↓dSetL,↓dNext,↓dIfS,↓dRet,↓dRetL,↓dDrop,↓dNever,↓dAug,↓dPar,↓dParL,↓dApp,↓dVar,↓dC,↓dBin,↓fI,↓fI0,↓fAdd,↓fEq,↓fNe,↓fIn,↓dTest,↓dAndT,↓dOrT,↓dNotT,↓dAndV,↓dOrV,↓dNotV,↓dIf,↓dIsN,↓dChain,↓dNil,↓dCons,↓dTup,↓dLst,↓dFz,↓valsD,↓dIx,↓dCall,↓dCallL,↓hasSrc,↓rrv,↓dN,↓dT,↓dTn,↓dTc,↓rsv,↓Gs.set,↓dFor,↓dItems,↓dRange1,↓dLc,↓dCB,↓cLen,↓cAll,↓cTuple,↓cInt1,↓cInt2,↓dIsi,↓dSetS,↓oSub,↓oAddI,↓oMul,↓oDiv,↓oMod,↓oShl,↓oPow,↓oLt,↓oLe,↓oGt,↓oGe,↓oAbs,↓oMin,↓cMinL,↓cSortedD,↓dSl,↓oNo,↓oSo,↓dBy,↓dD0,↓cLZ,↓dEnum,↓fMulT,↓cReprX,↓dRaise,↓dRaise0,↓dStop,↓dDropX,↓dAsgX,↓dTup2X,↓dCallX,↓dXval,↓dTry,↓dHand,↓dAs,↓gAs,↓Gs.unset,↓rtN,↓dLam,↓dAct,↓lamF,↓gLam,↓plainO,↓Z.isNon,↓dIfT,b_lowest,fs_common_divisor,ent,svOf,List.map_cons,List.map_nil,List.cons_append,List.nil_append,List.append_nil,List.replicate,List.length_cons,List.length_nil,List.getElem?_cons_zero,List.getElem?_cons_succ,List.getElem?_nil,List.set_cons_zero,List.set_cons_succ,Option.map_some,Option.map_none,Option.isNone_some,Option.isNone_none,forall_const,true_implies,false_implies,and_true,true_and,Bool.true_eq_false,Bool.false_eq_true,reduceCtorEq,noOwn,wipeS,hide,fuN_self,lcD,dYes,Nat.zero_add,Nat.reduceAdd,Nat.reduceLeDiff,Nat.reduceSub,atI_0,atI_1,atI_2,atI_3,atI_4,atI_5,Int.one_mul,eqv_ii,eqv_ss,eqv_num,shaped_int,shaped_num,shaped_none,shaped_ru,flat_str,flat_int,flat_none,List.all_cons,List.all_nil,Bool.and_true,decide_eq_true_eq,decide_eq_false_iff_not,Bool.not_eq_true',Bool.not_eq_false',Decidable.not_not,↓reduceIte,Bool.false_eq_true,Int.reduceLT,eqv_strs,pick_0,pick_01,pick_10,pick_012,pick_021,pick_102,pick_120,pick_201,pick_210]
  refine ⟨n, d, rfl, hn, by omega, gcd_divW hd hs, gcd_divW hd hs, h⟩
section
variable {P : Program} {w : World} {K : Fg} {mg : Str → Option Value} {base : Heap}
theorem d_lowest (T : Tx w K mg) {cdv : Value} {A : Around} {outer : List Env} {s : Shared} {H : Hp} {E : XK} (hr : Room 1 (A.deeper (envOfC "lowest" (defScope st_lowest) s.heap.objs.size T.f_lowest cdv))) (hgd : (A.deeper (envOfC "lowest" (defScope st_lowest) s.heap.objs.size T.f_lowest cdv)).guards = some []) :
    PSs (cxOf CX0 P w K mg base N_lowest "lowest" (defScope st_lowest) T.f_lowest cdv A outer s H E).nox (defBody st_lowest) (upS K W0 b_lowest) :=
  (ss_cons (s_set (i := 2) sc_lowest.nd rfl (.inl rfl) (e_call (ok_common_divisor T) (hr.mono (by decide)) hgd (by rfl) T.g_common_divisor T.F_common_divisor.kp T.b_common_divisor pass0 (a_cons (e_var 0 (pv 0)) (a_cons (e_var 1 (pv 1)) a_nil))))
    (ss_one (s_ret (e_tup (a_cons (e_div (e_var 0 (pv 0)) (e_var 2 (pv 2))) (a_cons (e_div (e_var 1 (pv 1)) (e_var 2 (pv 2))) a_nil))))))
theorem ok_lowest (T : Tx w K mg) : Fn P w K mg base CX0 2 T.f_lowest T.fd_lowest ["n", "d"] (lift K 2 fs_lowest) := fn_data T.F_lowest sc_lowest b_lowest (fun _ _ _ _ _ _ hr hgd => d_lowest T hr hgd) p_lowest
end
def b_is_width : DS :=
  (dRet (dAndV (dCall 2 fs_is_int (dCons (dVar 0) (dCons (dC (.int 1)) dNil))) (dBin oLe (dVar 0) (dC (.int 100)))))
def isWid (v : Da) : Bool := isInt v 1 && (match v with | .int i => decide (i ≤ 100) | _ => false)
theorem isWid_int {w : Int} (h1 : 1 ≤ w) (h2 : w ≤ 100) : isWid (.int w) = true := by simp [isWid, isInt, h1, h2]
def fs_is_width : FSp := fun rs fu post => ∃ v, rs = [.val v] ∧ post (.val (.bool (isWid v))) fu
theorem p_is_width (rs : List Rv) (fu : Option Nat) (post : Rr → Option Nat → Prop) (hl : rs.length = 1) (h : fs_is_width rs fu post) : b_is_width ⟨fun g => post (.val .none) g.fu, fun r g => post r g.fu, fun _ => False, fun _ => False⟩ (ent N_is_width rs fu) := by
  obtain ⟨v, rfl, h⟩ := h
  simp only [↓dSeq,↓dAsg,↓dSetL,↓dNext,↓dIfS,↓dRet,↓dRetL,↓dDrop,↓dNever,↓dAug,↓dPar,↓dParL,↓dApp,↓dVar,↓dC,↓dBin,↓fI,↓fI0,↓fAdd,↓fEq,↓fNe,↓fIn,↓dTest,↓dAndT,↓dOrT,↓dNotT,↓dAndV,↓dOrV,↓dNotV,↓dIf,↓dIsN,↓dChain,↓dNil,↓dCons,↓dTup,↓dLst,↓dFz,↓valsD,↓dIx,↓dCall,↓dCallL,↓hasSrc,↓rrv,↓dN,↓dT,↓dTn,↓dTc,↓rsv,↓Gs.set,↓dFor,↓dItems,↓dRange1,↓dLc,↓dCB,↓cLen,↓cAll,↓cTuple,↓cInt1,↓cInt2,↓dIsi,↓dSetS,↓oSub,↓oAddI,↓oMul,↓oDiv,↓oMod,↓oShl,↓oPow,↓oLt,↓oLe,↓oGt,↓oGe,↓oAbs,↓oMin,↓cMinL,↓cSortedD,↓dSl,↓oNo,↓oSo,↓dBy,↓dD0,↓cLZ,↓dEnum,↓fMulT,↓cReprX,↓dRaise,↓dRaise0,↓dStop,↓dDropX,↓dAsgX,↓dTup2X,↓dCallX,↓dXval,↓dTry,↓dHand,↓dAs,↓gAs,↓Gs.unset,↓rtN,↓dLam,↓dAct,↓lamF,↓gLam,↓plainO,↓Z.isNon,↓dIfT,b_is_width,fs_is_int,ent,svOf,List.map_cons,List.map_nil,List.cons_append,List.nil_append,List.append_nil,List.replicate,List.length_cons,List.length_nil,List.getElem?_cons_zero,List.getElem?_cons_succ,List.getElem?_nil,List.set_cons_zero,List.set_cons_succ,Option.map_some,Option.map_none,Option.isNone_some,Option.isNone_none,forall_const,true_implies,false_implies,and_true,true_and,Bool.true_eq_false,Bool.false_eq_true,reduceCtorEq,noOwn,wipeS,hide,fuN_self,lcD,dYes,Nat.zero_add,Nat.reduceAdd,Nat.reduceLeDiff,Nat.reduceSub,atI_0,atI_1,atI_2,atI_3,atI_4,atI_5,Int.one_mul,eqv_ii,eqv_ss,eqv_num,shaped_int,shaped_num,shaped_none,shaped_ru,flat_str,flat_int,flat_none,List.all_cons,List.all_nil,Bool.and_true,decide_eq_true_eq,decide_eq_false_iff_not,Bool.not_eq_true',Bool.not_eq_false',Decidable.not_not,↓reduceIte,Bool.false_eq_true,Int.reduceLT,eqv_strs,pick_0,pick_01,pick_10,pick_012,pick_021,pick_102,pick_120,pick_201,pick_210]
  refine ⟨v, 1, rfl, fun ht => ?_, fun hf => ?_⟩
  · obtain ⟨n, rfl, hn⟩ := isInt_some ht
    simpa [isWid, ht] using h
  · simpa [isWid, hf] using h
section
variable {P : Program} {w : World} {K : Fg} {mg : Str → Option Value} {base : Heap}
theorem d_is_width (T : Tx w K mg) {cdv : Value} {A : Around} {outer : List Env} {s : Shared} {H : Hp} {E : XK} (hr : Room 1 (A.deeper (envOfC "is_width" (defScope st_is_width) s.heap.objs.size T.f_is_width cdv))) (hgd : (A.deeper (envOfC "is_width" (defScope st_is_width) s.heap.objs.size T.f_is_width cdv)).guards = some []) :
    PSs (cxOf CX0 P w K mg base N_is_width "is_width" (defScope st_is_width) T.f_is_width cdv A outer s H E).nox (defBody st_is_width) (upS K W0 b_is_width) :=
  (ss_one (s_ret (e_and (e_call (ok_is_int T) (hr.mono (by decide)) hgd (by rfl) T.g_is_int T.F_is_int.kp T.b_is_int pass0 (a_cons (e_var 0 (pv 0)) (a_cons e_int a_nil))) (e_one (e_le (e_var 0 (pv 0)) (e_glob (by rfl) T.c_MOST_WIDTH T.v_MOST_WIDTH T.r_MOST_WIDTH))))))
theorem ok_is_width (T : Tx w K mg) : Fn P w K mg base CX0 2 T.f_is_width T.fd_is_width ["value"] (lift K 1 fs_is_width) := fn_data T.F_is_width sc_is_width b_is_width (fun _ _ _ _ _ _ hr hgd => d_is_width T hr hgd) p_is_width
end
def b_is_rule : DS :=
  (dRet (dAndV (dIsi "str" (dVar 0)) (dBin (fIn false) (dVar 0) (dC (.tuple [(.str "down"), (.str "half_down"), (.str "half_even"), (.str "half_up"), (.str "odd"), (.str "up")])))))
abbrev rulesD : List Da := [.str "down", .str "half_down", .str "half_even", .str "half_up", .str "odd", .str "up"]
def isRul (v : Da) : Bool := match v with
  | .str r => inD (.str r) rulesD
  | _ => false
theorem isRul_s (r : Ru) : isRul (.str r.s) = true := by cases r <;> decide +kernel
def fs_is_rule : FSp := fun rs fu post => ∃ v, rs = [.val v] ∧ post (.val (.bool (isRul v))) fu
theorem p_is_rule (rs : List Rv) (fu : Option Nat) (post : Rr → Option Nat → Prop) (hl : rs.length = 1) (h : fs_is_rule rs fu post) : b_is_rule ⟨fun g => post (.val .none) g.fu, fun r g => post r g.fu, fun _ => False, fun _ => False⟩ (ent N_is_rule rs fu) := by
  obtain ⟨v, rfl, h⟩ := h
  cases v with
  | str r =>
    simp only [↓dSeq,↓dAsg,↓dSetL,↓dNext,↓dIfS,↓dRet,↓dRetL,↓dDrop,↓dNever,↓dAug,↓dPar,↓dParL,↓dApp,↓dVar,↓dC,↓dBin,↓fI,↓fI0,↓fAdd,↓fEq,↓fNe,↓fIn,↓dTest,↓dAndT,↓dOrT,↓dNotT,↓dAndV,↓dOrV,↓dNotV,↓dIf,↓dIsN,↓dChain,↓dNil,↓dCons,↓dTup,↓dLst,↓dFz,↓valsD,↓dIx,↓dCall,↓dCallL,↓hasSrc,↓rrv,↓dN,↓dT,↓dTn,↓dTc,↓rsv,↓Gs.set,↓dFor,↓dItems,↓dRange1,↓dLc,↓dCB,↓cLen,↓cAll,↓cTuple,↓cInt1,↓cInt2,↓dIsi,↓dSetS,↓oSub,↓oAddI,↓oMul,↓oDiv,↓oMod,↓oShl,↓oPow,↓oLt,↓oLe,↓oGt,↓oGe,↓oAbs,↓oMin,↓cMinL,↓cSortedD,↓dSl,↓oNo,↓oSo,↓dBy,↓dD0,↓cLZ,↓dEnum,↓fMulT,↓cReprX,↓dRaise,↓dRaise0,↓dStop,↓dDropX,↓dAsgX,↓dTup2X,↓dCallX,↓dXval,↓dTry,↓dHand,↓dAs,↓gAs,↓Gs.unset,↓rtN,↓dLam,↓dAct,↓lamF,↓gLam,↓plainO,↓Z.isNon,↓dIfT,b_is_rule,ent,svOf,List.map_cons,List.map_nil,List.cons_append,List.nil_append,List.append_nil,List.replicate,List.length_cons,List.length_nil,List.getElem?_cons_zero,List.getElem?_cons_succ,List.getElem?_nil,List.set_cons_zero,List.set_cons_succ,Option.map_some,Option.map_none,Option.isNone_some,Option.isNone_none,forall_const,true_implies,false_implies,and_true,true_and,Bool.true_eq_false,Bool.false_eq_true,reduceCtorEq,noOwn,wipeS,hide,fuN_self,lcD,dYes,Nat.zero_add,Nat.reduceAdd,Nat.reduceLeDiff,Nat.reduceSub,atI_0,atI_1,atI_2,atI_3,atI_4,atI_5,Int.one_mul,eqv_ii,eqv_ss,eqv_num,shaped_int,shaped_num,shaped_none,shaped_ru,flat_str,flat_int,flat_none,List.all_cons,List.all_nil,Bool.and_true,decide_eq_true_eq,decide_eq_false_iff_not,Bool.not_eq_true',Bool.not_eq_false',Decidable.not_not,↓reduceIte,Bool.false_eq_true,Int.reduceLT,eqv_strs,pick_0,pick_01,pick_10,pick_012,pick_021,pick_102,pick_120,pick_201,pick_210]
    refine ⟨fun _ => h, fun z => (by simp [isTy] at z)⟩
  | _ => simp only [↓dSeq,↓dAsg,↓dSetL,↓dNext,↓dIfS,↓dRet,↓dRetL,↓dDrop,↓dNever,↓dAug,↓dPar,↓dParL,↓dApp,↓dVar,↓dC,↓dBin,↓fI,↓fI0,↓fAdd,↓fEq,↓fNe,↓fIn,↓dTest,↓dAndT,↓dOrT,↓dNotT,↓dAndV,↓dOrV,↓dNotV,↓dIf,↓dIsN,↓dChain,↓dNil,↓dCons,↓dTup,↓dLst,↓dFz,↓valsD,↓dIx,↓dCall,↓dCallL,↓hasSrc,↓rrv,↓dN,↓dT,↓dTn,↓dTc,↓rsv,↓Gs.set,↓dFor,↓dItems,↓dRange1,↓dLc,↓dCB,↓cLen,↓cAll,↓cTuple,↓cInt1,↓cInt2,↓dIsi,↓dSetS,↓oSub,↓oAddI,↓oMul,↓oDiv,↓oMod,↓oShl,↓oPow,↓oLt,↓oLe,↓oGt,↓oGe,↓oAbs,↓oMin,↓cMinL,↓cSortedD,↓dSl,↓oNo,↓oSo,↓dBy,↓dD0,↓cLZ,↓dEnum,↓fMulT,↓cReprX,↓dRaise,↓dRaise0,↓dStop,↓dDropX,↓dAsgX,↓dTup2X,↓dCallX,↓dXval,↓dTry,↓dHand,↓dAs,↓gAs,↓Gs.unset,↓rtN,↓dLam,↓dAct,↓lamF,↓gLam,↓plainO,↓Z.isNon,↓dIfT,b_is_rule,ent,svOf,List.map_cons,List.map_nil,List.cons_append,List.nil_append,List.append_nil,List.replicate,List.length_cons,List.length_nil,List.getElem?_cons_zero,List.getElem?_cons_succ,List.getElem?_nil,List.set_cons_zero,List.set_cons_succ,Option.map_some,Option.map_none,Option.isNone_some,Option.isNone_none,forall_const,true_implies,false_implies,and_true,true_and,Bool.true_eq_false,Bool.false_eq_true,reduceCtorEq,noOwn,wipeS,hide,fuN_self,lcD,dYes,Nat.zero_add,Nat.reduceAdd,Nat.reduceLeDiff,Nat.reduceSub,atI_0,atI_1,atI_2,atI_3,atI_4,atI_5,Int.one_mul,eqv_ii,eqv_ss,eqv_num,shaped_int,shaped_num,shaped_none,shaped_ru,flat_str,flat_int,flat_none,List.all_cons,List.all_nil,Bool.and_true,decide_eq_true_eq,decide_eq_false_iff_not,Bool.not_eq_true',Bool.not_eq_false',Decidable.not_not,↓reduceIte,Bool.false_eq_true,Int.reduceLT,eqv_strs,pick_0,pick_01,pick_10,pick_012,pick_021,pick_102,pick_120,pick_201,pick_210]; simpa [isTy, isRul] using h
section
variable {P : Program} {w : World} {K : Fg} {mg : Str → Option Value} {base : Heap}
theorem d_is_rule (T : Tx w K mg) {cdv : Value} {A : Around} {outer : List Env} {s : Shared} {H : Hp} {E : XK} (hr : Room 0 (A.deeper (envOfC "is_rule" (defScope st_is_rule) s.heap.objs.size T.f_is_rule cdv))) (hgd : (A.deeper (envOfC "is_rule" (defScope st_is_rule) s.heap.objs.size T.f_is_rule cdv)).guards = some []) :
    PSs (cxOf CX0 P w K mg base N_is_rule "is_rule" (defScope st_is_rule) T.f_is_rule cdv A outer s H E).nox (defBody st_is_rule) (upS K W0 b_is_rule) :=
  (ss_one (s_ret (e_and (e_isi kit_str (by rfl) T.n_isinstance (e_var 0 (pv 0)) (c_ty (by rfl) T.n_str (by decide +kernel))) (e_one (e_in (e_var 0 (pv 0)) (e_glob (by rfl) T.c_RULES T.v_RULES T.r_RULES))))))
theorem ok_is_rule (T : Tx w K mg) : Fn P w K mg base CX0 1 T.f_is_rule T.fd_is_rule ["value"] (lift K 1 fs_is_rule) := fn_data T.F_is_rule sc_is_rule b_is_rule (fun _ _ _ _ _ _ hr hgd => d_is_rule T hr hgd) p_is_rule
end
def b_is_step : DS :=
  (dRet (dAndV (dIsi "tuple" (dVar 0)) (dAndV (dBin fEq (dCB cLen (dCons (dVar 0) dNil)) (dC (.int 2))) (dAndV (dCall 1 fs_is_width (dCons (dIx (dVar 0) (dC (.int 0))) dNil)) (dCall 1 fs_is_rule (dCons (dIx (dVar 0) (dC (.int 1))) dNil))))))
def isStp : Da → Bool
  | .tuple [x, y] => isWid x && isRul y
  | _ => false
theorem isStp_ne {xs : List Da} (h : xs.length ≠ 2) : isStp (.tuple xs) = false := by
  match xs with
  | [] => rfl
  | [_] => rfl
  | [_, _] => exact absurd rfl h
  | _ :: _ :: _ :: _ => rfl
theorem isStp_st {s : Int × Ru} (h : 1 ≤ s.1 ∧ s.1 ≤ 100) : isStp (stD s) = true := by
  show (isWid (.int s.1) && isRul (.str s.2.s)) = true
  rw [isWid_int h.1 h.2, isRul_s]
  rfl
def fs_is_step : FSp := fun rs fu post => ∃ v, rs = [.val v] ∧ post (.val (.bool (isStp v))) fu
theorem p_is_step (rs : List Rv) (fu : Option Nat) (post : Rr → Option Nat → Prop) (hl : rs.length = 1) (h : fs_is_step rs fu post) : b_is_step ⟨fun g => post (.val .none) g.fu, fun r g => post r g.fu, fun _ => False, fun _ => False⟩ (ent N_is_step rs fu) := by
  obtain ⟨v, rfl, h⟩ := h
  cases v with
  | tuple xs =>
    simp only [↓dSeq,↓dAsg,↓dSetL,↓dNext,↓dIfS,↓dRet,↓dRetL,↓dDrop,↓dNever,↓dAug,↓dPar,↓dParL,↓dApp,↓dVar,↓dC,↓dBin,↓fI,↓fI0,↓fAdd,↓fEq,↓fNe,↓fIn,↓dTest,↓dAndT,↓dOrT,↓dNotT,↓dAndV,↓dOrV,↓dNotV,↓dIf,↓dIsN,↓dChain,↓dNil,↓dCons,↓dTup,↓dLst,↓dFz,↓valsD,↓dIx,↓dCall,↓dCallL,↓hasSrc,↓rrv,↓dN,↓dT,↓dTn,↓dTc,↓rsv,↓Gs.set,↓dFor,↓dItems,↓dRange1,↓dLc,↓dCB,↓cLen,↓cAll,↓cTuple,↓cInt1,↓cInt2,↓dIsi,↓dSetS,↓oSub,↓oAddI,↓oMul,↓oDiv,↓oMod,↓oShl,↓oPow,↓oLt,↓oLe,↓oGt,↓oGe,↓oAbs,↓oMin,↓cMinL,↓cSortedD,↓dSl,↓oNo,↓oSo,↓dBy,↓dD0,↓cLZ,↓dEnum,↓fMulT,↓cReprX,↓dRaise,↓dRaise0,↓dStop,↓dDropX,↓dAsgX,↓dTup2X,↓dCallX,↓dXval,↓dTry,↓dHand,↓dAs,↓gAs,↓Gs.unset,↓rtN,↓dLam,↓dAct,↓lamF,↓gLam,↓plainO,↓Z.isNon,↓dIfT,b_is_step,ent,svOf,List.map_cons,List.map_nil,List.cons_append,List.nil_append,List.append_nil,List.replicate,List.length_cons,List.length_nil,List.getElem?_cons_zero,List.getElem?_cons_succ,List.getElem?_nil,List.set_cons_zero,List.set_cons_succ,Option.map_some,Option.map_none,Option.isNone_some,Option.isNone_none,forall_const,true_implies,false_implies,and_true,true_and,Bool.true_eq_false,Bool.false_eq_true,reduceCtorEq,noOwn,wipeS,hide,fuN_self,lcD,dYes,Nat.zero_add,Nat.reduceAdd,Nat.reduceLeDiff,Nat.reduceSub,atI_0,atI_1,atI_2,atI_3,atI_4,atI_5,Int.one_mul,eqv_ii,eqv_ss,eqv_num,shaped_int,shaped_num,shaped_none,shaped_ru,flat_str,flat_int,flat_none,List.all_cons,List.all_nil,Bool.and_true,decide_eq_true_eq,decide_eq_false_iff_not,Bool.not_eq_true',Bool.not_eq_false',Decidable.not_not,↓reduceIte,Bool.false_eq_true,Int.reduceLT,eqv_strs,pick_0,pick_01,pick_10,pick_012,pick_021,pick_102,pick_120,pick_201,pick_210]
    refine ⟨fun _ => ⟨fun z => ?_, fun z => ?_⟩, fun z => (by simp [isTy] at z)⟩
    · have e : xs.length = 2 := by omega
      match xs, e with
      | [x, y], _ =>
        simp only [↓dSeq,↓dAsg,↓dSetL,↓dNext,↓dIfS,↓dRet,↓dRetL,↓dDrop,↓dNever,↓dAug,↓dPar,↓dParL,↓dApp,↓dVar,↓dC,↓dBin,↓fI,↓fI0,↓fAdd,↓fEq,↓fNe,↓fIn,↓dTest,↓dAndT,↓dOrT,↓dNotT,↓dAndV,↓dOrV,↓dNotV,↓dIf,↓dIsN,↓dChain,↓dNil,↓dCons,↓dTup,↓dLst,↓dFz,↓valsD,↓dIx,↓dCall,↓dCallL,↓hasSrc,↓rrv,↓dN,↓dT,↓dTn,↓dTc,↓rsv,↓Gs.set,↓dFor,↓dItems,↓dRange1,↓dLc,↓dCB,↓cLen,↓cAll,↓cTuple,↓cInt1,↓cInt2,↓dIsi,↓dSetS,↓oSub,↓oAddI,↓oMul,↓oDiv,↓oMod,↓oShl,↓oPow,↓oLt,↓oLe,↓oGt,↓oGe,↓oAbs,↓oMin,↓cMinL,↓cSortedD,↓dSl,↓oNo,↓oSo,↓dBy,↓dD0,↓cLZ,↓dEnum,↓fMulT,↓cReprX,↓dRaise,↓dRaise0,↓dStop,↓dDropX,↓dAsgX,↓dTup2X,↓dCallX,↓dXval,↓dTry,↓dHand,↓dAs,↓gAs,↓Gs.unset,↓rtN,↓dLam,↓dAct,↓lamF,↓gLam,↓plainO,↓Z.isNon,↓dIfT,fs_is_width,fs_is_rule,ent,svOf,List.map_cons,List.map_nil,List.cons_append,List.nil_append,List.append_nil,List.replicate,List.length_cons,List.length_nil,List.getElem?_cons_zero,List.getElem?_cons_succ,List.getElem?_nil,List.set_cons_zero,List.set_cons_succ,Option.map_some,Option.map_none,Option.isNone_some,Option.isNone_none,forall_const,true_implies,false_implies,and_true,true_and,Bool.true_eq_false,Bool.false_eq_true,reduceCtorEq,noOwn,wipeS,hide,fuN_self,lcD,dYes,Nat.zero_add,Nat.reduceAdd,Nat.reduceLeDiff,Nat.reduceSub,atI_0,atI_1,atI_2,atI_3,atI_4,atI_5,Int.one_mul,eqv_ii,eqv_ss,eqv_num,shaped_int,shaped_num,shaped_none,shaped_ru,flat_str,flat_int,flat_none,List.all_cons,List.all_nil,Bool.and_true,decide_eq_true_eq,decide_eq_false_iff_not,Bool.not_eq_true',Bool.not_eq_false',Decidable.not_not,↓reduceIte,Bool.false_eq_true,Int.reduceLT,eqv_strs,pick_0,pick_01,pick_10,pick_012,pick_021,pick_102,pick_120,pick_201,pick_210]
        refine ⟨x, rfl, fun ht => ⟨y, rfl, ?_⟩, fun hf => ?_⟩
        · simp only [isStp, ht, Bool.true_and] at h
          exact h
        · simp only [isStp, hf, Bool.false_and] at h
          exact h
    · have e : xs.length ≠ 2 := by omega
      rw [isStp_ne e] at h
      exact h
  | _ => simp only [↓dSeq,↓dAsg,↓dSetL,↓dNext,↓dIfS,↓dRet,↓dRetL,↓dDrop,↓dNever,↓dAug,↓dPar,↓dParL,↓dApp,↓dVar,↓dC,↓dBin,↓fI,↓fI0,↓fAdd,↓fEq,↓fNe,↓fIn,↓dTest,↓dAndT,↓dOrT,↓dNotT,↓dAndV,↓dOrV,↓dNotV,↓dIf,↓dIsN,↓dChain,↓dNil,↓dCons,↓dTup,↓dLst,↓dFz,↓valsD,↓dIx,↓dCall,↓dCallL,↓hasSrc,↓rrv,↓dN,↓dT,↓dTn,↓dTc,↓rsv,↓Gs.set,↓dFor,↓dItems,↓dRange1,↓dLc,↓dCB,↓cLen,↓cAll,↓cTuple,↓cInt1,↓cInt2,↓dIsi,↓dSetS,↓oSub,↓oAddI,↓oMul,↓oDiv,↓oMod,↓oShl,↓oPow,↓oLt,↓oLe,↓oGt,↓oGe,↓oAbs,↓oMin,↓cMinL,↓cSortedD,↓dSl,↓oNo,↓oSo,↓dBy,↓dD0,↓cLZ,↓dEnum,↓fMulT,↓cReprX,↓dRaise,↓dRaise0,↓dStop,↓dDropX,↓dAsgX,↓dTup2X,↓dCallX,↓dXval,↓dTry,↓dHand,↓dAs,↓gAs,↓Gs.unset,↓rtN,↓dLam,↓dAct,↓lamF,↓gLam,↓plainO,↓Z.isNon,↓dIfT,b_is_step,ent,svOf,List.map_cons,List.map_nil,List.cons_append,List.nil_append,List.append_nil,List.replicate,List.length_cons,List.length_nil,List.getElem?_cons_zero,List.getElem?_cons_succ,List.getElem?_nil,List.set_cons_zero,List.set_cons_succ,Option.map_some,Option.map_none,Option.isNone_some,Option.isNone_none,forall_const,true_implies,false_implies,and_true,true_and,Bool.true_eq_false,Bool.false_eq_true,reduceCtorEq,noOwn,wipeS,hide,fuN_self,lcD,dYes,Nat.zero_add,Nat.reduceAdd,Nat.reduceLeDiff,Nat.reduceSub,atI_0,atI_1,atI_2,atI_3,atI_4,atI_5,Int.one_mul,eqv_ii,eqv_ss,eqv_num,shaped_int,shaped_num,shaped_none,shaped_ru,flat_str,flat_int,flat_none,List.all_cons,List.all_nil,Bool.and_true,decide_eq_true_eq,decide_eq_false_iff_not,Bool.not_eq_true',Bool.not_eq_false',Decidable.not_not,↓reduceIte,Bool.false_eq_true,Int.reduceLT,eqv_strs,pick_0,pick_01,pick_10,pick_012,pick_021,pick_102,pick_120,pick_201,pick_210]; simpa [isTy, isStp] using h
section
variable {P : Program} {w : World} {K : Fg} {mg : Str → Option Value} {base : Heap}
theorem d_is_step (T : Tx w K mg) {cdv : Value} {A : Around} {outer : List Env} {s : Shared} {H : Hp} {E : XK} (hr : Room 2 (A.deeper (envOfC "is_step" (defScope st_is_step) s.heap.objs.size T.f_is_step cdv))) (hgd : (A.deeper (envOfC "is_step" (defScope st_is_step) s.heap.objs.size T.f_is_step cdv)).guards = some []) :
    PSs (cxOf CX0 P w K mg base N_is_step "is_step" (defScope st_is_step) T.f_is_step cdv A outer s H E).nox (defBody st_is_step) (upS K W0 b_is_step) :=
  (ss_one (s_ret (e_and (e_isi kit_tuple (by rfl) T.n_isinstance (e_var 0 (pv 0)) (c_ty (by rfl) T.n_tuple (by decide +kernel))) (e_and (e_eq hr.units (e_len (by rfl) T.n_len (a_cons (e_var 0 (pv 0)) a_nil)) (e_glob (by rfl) T.c_PAIR T.v_PAIR T.r_PAIR)) (e_and (e_call (ok_is_width T) (hr.mono (by decide)) hgd (by rfl) T.g_is_width T.F_is_width.kp T.b_is_width pass0 (a_cons (e_ix (e_var 0 (pv 0)) e_int) a_nil)) (e_one (e_call (ok_is_rule T) (hr.mono (by decide)) hgd (by rfl) T.g_is_rule T.F_is_rule.kp T.b_is_rule pass0 (a_cons (e_ix (e_var 0 (pv 0)) e_int) a_nil))))))))
theorem ok_is_step (T : Tx w K mg) : Fn P w K mg base CX0 3 T.f_is_step T.fd_is_step ["value"] (lift K 1 fs_is_step) := fn_data T.F_is_step sc_is_step b_is_step (fun _ _ _ _ _ _ hr hgd => d_is_step T hr hgd) p_is_step
end
def b_is_chain : DS :=
  (dRet (dAndV (dIsi "tuple" (dVar 0)) (dAndV (dChain oLe oLe (dC (.int 1)) (dCB cLen (dCons (dVar 0) dNil)) (dC (.int 12))) (dCB cAll (dCons (dFz (dLc [1] (dItems (dVar 0)) (dN 1) dYes (dCall 1 fs_is_step (dCons (dVar 1) dNil)))) dNil)))))
def isChn : Da → Bool
  | .tuple xs => decide (1 ≤ (xs.length : Int)) && decide ((xs.length : Int) ≤ 12) && xs.all isStp
  | _ => false
theorem isChn_ch {c : List (Int × Ru)} (h : c ≠ []) (hl : c.length ≤ 12) (hw : Wds c) : isChn (chD c) = true := by
  have h0 : 0 < c.length := List.length_pos_iff.mpr h
  simp only [isChn, chD, Bool.and_eq_true, decide_eq_true_eq, List.length_map]
  refine ⟨⟨by omega, by omega⟩, ?_⟩
  rw [List.all_map, List.all_eq_true]
  exact fun s hs => isStp_st (hw s hs)
theorem boolsD_map (f : Da → Bool) : ∀ ds : List Da, boolsD (ds.map fun d => .bool (f d)) = some (ds.map f)
  | [] => rfl
  | d :: ds => by
    have := boolsD_map f ds
    simp [boolsD, this]
def fs_is_chain : FSp := fun rs fu post => ∃ v, rs = [.val v] ∧ post (.val (.bool (isChn v))) fu
theorem p_is_chain (rs : List Rv) (fu : Option Nat) (post : Rr → Option Nat → Prop) (hl : rs.length = 1) (h : fs_is_chain rs fu post) : b_is_chain ⟨fun g => post (.val .none) g.fu, fun r g => post r g.fu, fun _ => False, fun _ => False⟩ (ent N_is_chain rs fu) := by
  obtain ⟨v, rfl, h⟩ := h
  cases v with
  | tuple xs =>
    simp only [↓dSeq,↓dAsg,↓dSetL,↓dNext,↓dIfS,↓dRet,↓dRetL,↓dDrop,↓dNever,↓dAug,↓dPar,↓dParL,↓dApp,↓dVar,↓dC,↓dBin,↓fI,↓fI0,↓fAdd,↓fEq,↓fNe,↓fIn,↓dTest,↓dAndT,↓dOrT,↓dNotT,↓dAndV,↓dOrV,↓dNotV,↓dIf,↓dIsN,↓dChain,↓dNil,↓dCons,↓dTup,↓dLst,↓dFz,↓valsD,↓dIx,↓dCall,↓dCallL,↓hasSrc,↓rrv,↓dN,↓dT,↓dTn,↓dTc,↓rsv,↓Gs.set,↓dFor,↓dItems,↓dRange1,↓dLc,↓dCB,↓cLen,↓cAll,↓cTuple,↓cInt1,↓cInt2,↓dIsi,↓dSetS,↓oSub,↓oAddI,↓oMul,↓oDiv,↓oMod,↓oShl,↓oPow,↓oLt,↓oLe,↓oGt,↓oGe,↓oAbs,↓oMin,↓cMinL,↓cSortedD,↓dSl,↓oNo,↓oSo,↓dBy,↓dD0,↓cLZ,↓dEnum,↓fMulT,↓cReprX,↓dRaise,↓dRaise0,↓dStop,↓dDropX,↓dAsgX,↓dTup2X,↓dCallX,↓dXval,↓dTry,↓dHand,↓dAs,↓gAs,↓Gs.unset,↓rtN,↓dLam,↓dAct,↓lamF,↓gLam,↓plainO,↓Z.isNon,↓dIfT,b_is_chain,ent,svOf,List.map_cons,List.map_nil,List.cons_append,List.nil_append,List.append_nil,List.replicate,List.length_cons,List.length_nil,List.getElem?_cons_zero,List.getElem?_cons_succ,List.getElem?_nil,List.set_cons_zero,List.set_cons_succ,Option.map_some,Option.map_none,Option.isNone_some,Option.isNone_none,forall_const,true_implies,false_implies,and_true,true_and,Bool.true_eq_false,Bool.false_eq_true,reduceCtorEq,noOwn,wipeS,hide,fuN_self,lcD,dYes,Nat.zero_add,Nat.reduceAdd,Nat.reduceLeDiff,Nat.reduceSub,atI_0,atI_1,atI_2,atI_3,atI_4,atI_5,Int.one_mul,eqv_ii,eqv_ss,eqv_num,shaped_int,shaped_num,shaped_none,shaped_ru,flat_str,flat_int,flat_none,List.all_cons,List.all_nil,Bool.and_true,decide_eq_true_eq,decide_eq_false_iff_not,Bool.not_eq_true',Bool.not_eq_false',Decidable.not_not,↓reduceIte,Bool.false_eq_true,Int.reduceLT,eqv_strs,pick_0,pick_01,pick_10,pick_012,pick_021,pick_102,pick_120,pick_201,pick_210]
    refine ⟨fun _ => ?_, fun z => (by simp [isTy] at z)⟩
    by_cases h1 : 1 ≤ (xs.length : Int)
    · by_cases h2 : (xs.length : Int) ≤ 12
      · rw [decide_eq_true h1]
        refine ⟨fun _ => ?_, fun z => absurd h2 (by simpa using z)⟩
        refine lc_map (fun x => .bool (isStp x)) (fun x hx R hR => ?_) (by simp only [List.length_nil]; omega) ?_
        · simp only [↓dSeq,↓dAsg,↓dSetL,↓dNext,↓dIfS,↓dRet,↓dRetL,↓dDrop,↓dNever,↓dAug,↓dPar,↓dParL,↓dApp,↓dVar,↓dC,↓dBin,↓fI,↓fI0,↓fAdd,↓fEq,↓fNe,↓fIn,↓dTest,↓dAndT,↓dOrT,↓dNotT,↓dAndV,↓dOrV,↓dNotV,↓dIf,↓dIsN,↓dChain,↓dNil,↓dCons,↓dTup,↓dLst,↓dFz,↓valsD,↓dIx,↓dCall,↓dCallL,↓hasSrc,↓rrv,↓dN,↓dT,↓dTn,↓dTc,↓rsv,↓Gs.set,↓dFor,↓dItems,↓dRange1,↓dLc,↓dCB,↓cLen,↓cAll,↓cTuple,↓cInt1,↓cInt2,↓dIsi,↓dSetS,↓oSub,↓oAddI,↓oMul,↓oDiv,↓oMod,↓oShl,↓oPow,↓oLt,↓oLe,↓oGt,↓oGe,↓oAbs,↓oMin,↓cMinL,↓cSortedD,↓dSl,↓oNo,↓oSo,↓dBy,↓dD0,↓cLZ,↓dEnum,↓fMulT,↓cReprX,↓dRaise,↓dRaise0,↓dStop,↓dDropX,↓dAsgX,↓dTup2X,↓dCallX,↓dXval,↓dTry,↓dHand,↓dAs,↓gAs,↓Gs.unset,↓rtN,↓dLam,↓dAct,↓lamF,↓gLam,↓plainO,↓Z.isNon,↓dIfT,fs_is_step,ent,svOf,List.map_cons,List.map_nil,List.cons_append,List.nil_append,List.append_nil,List.replicate,List.length_cons,List.length_nil,List.getElem?_cons_zero,List.getElem?_cons_succ,List.getElem?_nil,List.set_cons_zero,List.set_cons_succ,Option.map_some,Option.map_none,Option.isNone_some,Option.isNone_none,forall_const,true_implies,false_implies,and_true,true_and,Bool.true_eq_false,Bool.false_eq_true,reduceCtorEq,noOwn,wipeS,hide,fuN_self,lcD,dYes,Nat.zero_add,Nat.reduceAdd,Nat.reduceLeDiff,Nat.reduceSub,atI_0,atI_1,atI_2,atI_3,atI_4,atI_5,Int.one_mul,eqv_ii,eqv_ss,eqv_num,shaped_int,shaped_num,shaped_none,shaped_ru,flat_str,flat_int,flat_none,List.all_cons,List.all_nil,Bool.and_true,decide_eq_true_eq,decide_eq_false_iff_not,Bool.not_eq_true',Bool.not_eq_false',Decidable.not_not,↓reduceIte,Bool.false_eq_true,Int.reduceLT,eqv_strs,pick_0,pick_01,pick_10,pick_012,pick_021,pick_102,pick_120,pick_201,pick_210]
          exact ⟨x, rfl, hR _ rfl⟩
        · rw [List.nil_append, boolsD_map]
          simp only [isChn, h1, h2, decide_true, Bool.true_and] at h
          show post (.val (.bool ((List.map isStp xs).all id))) fu
          rw [List.all_map]
          exact h
      · rw [decide_eq_true h1]
        refine ⟨fun z => absurd (by simpa using z) h2, fun _ => ?_⟩
        simp only [isChn, h2, decide_false, Bool.and_false, Bool.false_and] at h
        exact h
    · rw [decide_eq_false h1]
      simp only [↓dSeq,↓dAsg,↓dSetL,↓dNext,↓dIfS,↓dRet,↓dRetL,↓dDrop,↓dNever,↓dAug,↓dPar,↓dParL,↓dApp,↓dVar,↓dC,↓dBin,↓fI,↓fI0,↓fAdd,↓fEq,↓fNe,↓fIn,↓dTest,↓dAndT,↓dOrT,↓dNotT,↓dAndV,↓dOrV,↓dNotV,↓dIf,↓dIsN,↓dChain,↓dNil,↓dCons,↓dTup,↓dLst,↓dFz,↓valsD,↓dIx,↓dCall,↓dCallL,↓hasSrc,↓rrv,↓dN,↓dT,↓dTn,↓dTc,↓rsv,↓Gs.set,↓dFor,↓dItems,↓dRange1,↓dLc,↓dCB,↓cLen,↓cAll,↓cTuple,↓cInt1,↓cInt2,↓dIsi,↓dSetS,↓oSub,↓oAddI,↓oMul,↓oDiv,↓oMod,↓oShl,↓oPow,↓oLt,↓oLe,↓oGt,↓oGe,↓oAbs,↓oMin,↓cMinL,↓cSortedD,↓dSl,↓oNo,↓oSo,↓dBy,↓dD0,↓cLZ,↓dEnum,↓fMulT,↓cReprX,↓dRaise,↓dRaise0,↓dStop,↓dDropX,↓dAsgX,↓dTup2X,↓dCallX,↓dXval,↓dTry,↓dHand,↓dAs,↓gAs,↓Gs.unset,↓rtN,↓dLam,↓dAct,↓lamF,↓gLam,↓plainO,↓Z.isNon,↓dIfT,ent,svOf,List.map_cons,List.map_nil,List.cons_append,List.nil_append,List.append_nil,List.replicate,List.length_cons,List.length_nil,List.getElem?_cons_zero,List.getElem?_cons_succ,List.getElem?_nil,List.set_cons_zero,List.set_cons_succ,Option.map_some,Option.map_none,Option.isNone_some,Option.isNone_none,forall_const,true_implies,false_implies,and_true,true_and,Bool.true_eq_false,Bool.false_eq_true,reduceCtorEq,noOwn,wipeS,hide,fuN_self,lcD,dYes,Nat.zero_add,Nat.reduceAdd,Nat.reduceLeDiff,Nat.reduceSub,atI_0,atI_1,atI_2,atI_3,atI_4,atI_5,Int.one_mul,eqv_ii,eqv_ss,eqv_num,shaped_int,shaped_num,shaped_none,shaped_ru,flat_str,flat_int,flat_none,List.all_cons,List.all_nil,Bool.and_true,decide_eq_true_eq,decide_eq_false_iff_not,Bool.not_eq_true',Bool.not_eq_false',Decidable.not_not,↓reduceIte,Bool.false_eq_true,Int.reduceLT,eqv_strs,pick_0,pick_01,pick_10,pick_012,pick_021,pick_102,pick_120,pick_201,pick_210]
      simp only [isChn, h1, decide_false, Bool.and_false, Bool.false_and] at h
      exact h
  | _ => simp only [↓dSeq,↓dAsg,↓dSetL,↓dNext,↓dIfS,↓dRet,↓dRetL,↓dDrop,↓dNever,↓dAug,↓dPar,↓dParL,↓dApp,↓dVar,↓dC,↓dBin,↓fI,↓fI0,↓fAdd,↓fEq,↓fNe,↓fIn,↓dTest,↓dAndT,↓dOrT,↓dNotT,↓dAndV,↓dOrV,↓dNotV,↓dIf,↓dIsN,↓dChain,↓dNil,↓dCons,↓dTup,↓dLst,↓dFz,↓valsD,↓dIx,↓dCall,↓dCallL,↓hasSrc,↓rrv,↓dN,↓dT,↓dTn,↓dTc,↓rsv,↓Gs.set,↓dFor,↓dItems,↓dRange1,↓dLc,↓dCB,↓cLen,↓cAll,↓cTuple,↓cInt1,↓cInt2,↓dIsi,↓dSetS,↓oSub,↓oAddI,↓oMul,↓oDiv,↓oMod,↓oShl,↓oPow,↓oLt,↓oLe,↓oGt,↓oGe,↓oAbs,↓oMin,↓cMinL,↓cSortedD,↓dSl,↓oNo,↓oSo,↓dBy,↓dD0,↓cLZ,↓dEnum,↓fMulT,↓cReprX,↓dRaise,↓dRaise0,↓dStop,↓dDropX,↓dAsgX,↓dTup2X,↓dCallX,↓dXval,↓dTry,↓dHand,↓dAs,↓gAs,↓Gs.unset,↓rtN,↓dLam,↓dAct,↓lamF,↓gLam,↓plainO,↓Z.isNon,↓dIfT,b_is_chain,ent,svOf,List.map_cons,List.map_nil,List.cons_append,List.nil_append,List.append_nil,List.replicate,List.length_cons,List.length_nil,List.getElem?_cons_zero,List.getElem?_cons_succ,List.getElem?_nil,List.set_cons_zero,List.set_cons_succ,Option.map_some,Option.map_none,Option.isNone_some,Option.isNone_none,forall_const,true_implies,false_implies,and_true,true_and,Bool.true_eq_false,Bool.false_eq_true,reduceCtorEq,noOwn,wipeS,hide,fuN_self,lcD,dYes,Nat.zero_add,Nat.reduceAdd,Nat.reduceLeDiff,Nat.reduceSub,atI_0,atI_1,atI_2,atI_3,atI_4,atI_5,Int.one_mul,eqv_ii,eqv_ss,eqv_num,shaped_int,shaped_num,shaped_none,shaped_ru,flat_str,flat_int,flat_none,List.all_cons,List.all_nil,Bool.and_true,decide_eq_true_eq,decide_eq_false_iff_not,Bool.not_eq_true',Bool.not_eq_false',Decidable.not_not,↓reduceIte,Bool.false_eq_true,Int.reduceLT,eqv_strs,pick_0,pick_01,pick_10,pick_012,pick_021,pick_102,pick_120,pick_201,pick_210]; simpa [isTy, isChn] using h
section
variable {P : Program} {w : World} {K : Fg} {mg : Str → Option Value} {base : Heap}
theorem d_is_chain (T : Tx w K mg) {cdv : Value} {A : Around} {outer : List Env} {s : Shared} {H : Hp} {E : XK} (hr : Room 3 (A.deeper (envOfC "is_chain" (defScope st_is_chain) s.heap.objs.size T.f_is_chain cdv))) (hgd : (A.deeper (envOfC "is_chain" (defScope st_is_chain) s.heap.objs.size T.f_is_chain cdv)).guards = some []) :
    PSs (cxOf CX0 P w K mg base N_is_chain "is_chain" (defScope st_is_chain) T.f_is_chain cdv A outer s H E).nox (defBody st_is_chain) (upS K W0 b_is_chain) :=
  (ss_one (s_ret (e_and (e_isi kit_tuple (by rfl) T.n_isinstance (e_var 0 (pv 0)) (c_ty (by rfl) T.n_tuple (by decide +kernel))) (e_and (e_lele e_int (e_len (by rfl) T.n_len (a_cons (e_var 0 (pv 0)) a_nil)) (e_glob (by rfl) T.c_MOST_STEPS T.v_MOST_STEPS T.r_MOST_STEPS)) (e_one (e_all rfl (by rfl) T.n_all (a_cons (e_fz (e_lc (own := [("step", 1)]) rfl sc_is_chain.nd (i_items (e_var 0 (pv 0))) (blkOk_by (own := [("step", 1)]) (N := N_is_chain) (sc := defScope st_is_chain) (by decide +kernel)) (fun _ _ _ _ _ => (gw_name rfl (pg_name (i := 1) sc_is_chain.nd rfl (.inl rfl)) (by decide))) (fun _ _ _ _ _ => ts_yes) (fun _ _ _ _ _ => (e_call (ok_is_step T) (hr.mono (by decide)) hgd (by rfl) T.g_is_step T.F_is_step.kp T.b_is_step pass0 (a_cons (e_var 1 (pv 1)) a_nil))))) a_nil)))))))
theorem ok_is_chain (T : Tx w K mg) : Fn P w K mg base CX0 4 T.f_is_chain T.fd_is_chain ["value"] (lift K 1 fs_is_chain) := fn_data T.F_is_chain sc_is_chain b_is_chain (fun _ _ _ _ _ _ hr hgd => d_is_chain T hr hgd) p_is_chain
end
def b_check_chain : DS :=
  (dIfS (dNotT (dTest (dCall 1 fs_is_chain (dCons (dVar 0) dNil))))
    dNever
    dNext)
theorem _root_.Z.Chn1.is {c : List (Int × Ru)} (h : Chn1 c) : isChn (chD c) = true := isChn_ch h.ne h.len h.w
def fs_check_chain : FSp := fun rs fu post => ∃ v, rs = [.val v] ∧ isChn v = true ∧ post (.val .none) fu
theorem p_check_chain (rs : List Rv) (fu : Option Nat) (post : Rr → Option Nat → Prop) (hl : rs.length = 1) (h : fs_check_chain rs fu post) : b_check_chain ⟨fun g => post (.val .none) g.fu, fun r g => post r g.fu, fun _ => False, fun _ => False⟩ (ent N_check_chain rs fu) := by
  obtain ⟨v, rfl, hv, h⟩ := h
  simp only [↓dSeq,↓dAsg,↓dSetL,↓dNext,↓dIfS,↓dRet,↓dRetL,↓dDrop,↓dNever,↓dAug,↓dPar,↓dParL,↓dApp,↓dVar,↓dC,↓dBin,↓fI,↓fI0,↓fAdd,↓fEq,↓fNe,↓fIn,↓dTest,↓dAndT,↓dOrT,↓dNotT,↓dAndV,↓dOrV,↓dNotV,↓dIf,↓dIsN,↓dChain,↓dNil,↓dCons,↓dTup,↓dLst,↓dFz,↓valsD,↓dIx,↓dCall,↓dCallL,↓hasSrc,↓rrv,↓dN,↓dT,↓dTn,↓dTc,↓rsv,↓Gs.set,↓dFor,↓dItems,↓dRange1,↓dLc,↓dCB,↓cLen,↓cAll,↓cTuple,↓cInt1,↓cInt2,↓dIsi,↓dSetS,↓oSub,↓oAddI,↓oMul,↓oDiv,↓oMod,↓oShl,↓oPow,↓oLt,↓oLe,↓oGt,↓oGe,↓oAbs,↓oMin,↓cMinL,↓cSortedD,↓dSl,↓oNo,↓oSo,↓dBy,↓dD0,↓cLZ,↓dEnum,↓fMulT,↓cReprX,↓dRaise,↓dRaise0,↓dStop,↓dDropX,↓dAsgX,↓dTup2X,↓dCallX,↓dXval,↓dTry,↓dHand,↓dAs,↓gAs,↓Gs.unset,↓rtN,↓dLam,↓dAct,↓lamF,↓gLam,↓plainO,↓Z.isNon,↓dIfT,b_check_chain,fs_is_chain,ent,svOf,List.map_cons,List.map_nil,List.cons_append,List.nil_append,List.append_nil,List.replicate,List.length_cons,List.length_nil,List.getElem?_cons_zero,List.getElem?_cons_succ,List.getElem?_nil,List.set_cons_zero,List.set_cons_succ,Option.map_some,Option.map_none,Option.isNone_some,Option.isNone_none,forall_const,true_implies,false_implies,and_true,true_and,Bool.true_eq_false,Bool.false_eq_true,reduceCtorEq,noOwn,wipeS,hide,fuN_self,lcD,dYes,Nat.zero_add,Nat.reduceAdd,Nat.reduceLeDiff,Nat.reduceSub,atI_0,atI_1,atI_2,atI_3,atI_4,atI_5,Int.one_mul,eqv_ii,eqv_ss,eqv_num,shaped_int,shaped_num,shaped_none,shaped_ru,flat_str,flat_int,flat_none,List.all_cons,List.all_nil,Bool.and_true,decide_eq_true_eq,decide_eq_false_iff_not,Bool.not_eq_true',Bool.not_eq_false',Decidable.not_not,↓reduceIte,Bool.false_eq_true,Int.reduceLT,eqv_strs,pick_0,pick_01,pick_10,pick_012,pick_021,pick_102,pick_120,pick_201,pick_210]
  refine ⟨v, rfl, fun z => ?_, fun _ => h⟩
  rw [hv] at z
  exact absurd z (by decide)
section
variable {P : Program} {w : World} {K : Fg} {mg : Str → Option Value} {base : Heap}
theorem d_check_chain (T : Tx w K mg) {cdv : Value} {A : Around} {outer : List Env} {s : Shared} {H : Hp} {E : XK} (hr : Room 4 (A.deeper (envOfC "check_chain" (defScope st_check_chain) s.heap.objs.size T.f_check_chain cdv))) (hgd : (A.deeper (envOfC "check_chain" (defScope st_check_chain) s.heap.objs.size T.f_check_chain cdv)).guards = some []) :
    PSs (cxOf CX0 P w K mg base N_check_chain "check_chain" (defScope st_check_chain) T.f_check_chain cdv A outer s H E).nox (defBody st_check_chain) (upS K W0 b_check_chain) :=
  (ss_one (s_if (t_not (t_val (e_call (ok_is_chain T) (hr.mono (by decide)) hgd (by rfl) T.g_is_chain T.F_is_chain.kp T.b_is_chain pass0 (a_cons (e_var 0 (pv 0)) a_nil)))) (ss_one s_never) ss_nil))
theorem ok_check_chain (T : Tx w K mg) : Fn P w K mg base CX0 5 T.f_check_chain T.fd_check_chain ["value"] (lift K 1 fs_check_chain) := fn_data T.F_check_chain sc_check_chain b_check_chain (fun _ _ _ _ _ _ hr hgd => d_check_chain T hr hgd) p_check_chain
end
def b_check_chainX : DS :=
  (dIfS (dNotT (dTest (dCall 1 fs_is_chain (dCons (dVar 0) dNil))))
    (dRaise "InvalidChain" (dVar 0))
    dNext)
def fs_check_chainX : FSp := fun rs fu post => ∃ v, rs = [.val v] ∧ isChn v = false ∧ ShX v ∧ post (.exc "InvalidChain" (some v)) fu
theorem p_check_chainX (rs : List Rv) (fu : Option Nat) (post : Rr → Option Nat → Prop) (hl : rs.length = 1) (h : fs_check_chainX rs fu post) : b_check_chainX ⟨fun g => post (.val .none) g.fu, fun r g => post r g.fu, fun _ => False, fun _ => False⟩ (ent N_check_chain rs fu) := by
  obtain ⟨v, rfl, hv, hs, h⟩ := h
  simp only [↓dSeq,↓dAsg,↓dSetL,↓dNext,↓dIfS,↓dRet,↓dRetL,↓dDrop,↓dNever,↓dAug,↓dPar,↓dParL,↓dApp,↓dVar,↓dC,↓dBin,↓fI,↓fI0,↓fAdd,↓fEq,↓fNe,↓fIn,↓dTest,↓dAndT,↓dOrT,↓dNotT,↓dAndV,↓dOrV,↓dNotV,↓dIf,↓dIsN,↓dChain,↓dNil,↓dCons,↓dTup,↓dLst,↓dFz,↓valsD,↓dIx,↓dCall,↓dCallL,↓hasSrc,↓rrv,↓dN,↓dT,↓dTn,↓dTc,↓rsv,↓Gs.set,↓dFor,↓dItems,↓dRange1,↓dLc,↓dCB,↓cLen,↓cAll,↓cTuple,↓cInt1,↓cInt2,↓dIsi,↓dSetS,↓oSub,↓oAddI,↓oMul,↓oDiv,↓oMod,↓oShl,↓oPow,↓oLt,↓oLe,↓oGt,↓oGe,↓oAbs,↓oMin,↓cMinL,↓cSortedD,↓dSl,↓oNo,↓oSo,↓dBy,↓dD0,↓cLZ,↓dEnum,↓fMulT,↓cReprX,↓dRaise,↓dRaise0,↓dStop,↓dDropX,↓dAsgX,↓dTup2X,↓dCallX,↓dXval,↓dTry,↓dHand,↓dAs,↓gAs,↓Gs.unset,↓rtN,↓dLam,↓dAct,↓lamF,↓gLam,↓plainO,↓Z.isNon,↓dIfT,b_check_chainX,fs_is_chain,ent,svOf,List.map_cons,List.map_nil,List.cons_append,List.nil_append,List.append_nil,List.replicate,List.length_cons,List.length_nil,List.getElem?_cons_zero,List.getElem?_cons_succ,List.getElem?_nil,List.set_cons_zero,List.set_cons_succ,Option.map_some,Option.map_none,Option.isNone_some,Option.isNone_none,forall_const,true_implies,false_implies,and_true,true_and,Bool.true_eq_false,Bool.false_eq_true,reduceCtorEq,noOwn,wipeS,hide,fuN_self,lcD,dYes,Nat.zero_add,Nat.reduceAdd,Nat.reduceLeDiff,Nat.reduceSub,atI_0,atI_1,atI_2,atI_3,atI_4,atI_5,Int.one_mul,eqv_ii,eqv_ss,eqv_num,shaped_int,shaped_num,shaped_none,shaped_ru,flat_str,flat_int,flat_none,List.all_cons,List.all_nil,Bool.and_true,decide_eq_true_eq,decide_eq_false_iff_not,Bool.not_eq_true',Bool.not_eq_false',Decidable.not_not,↓reduceIte,Bool.false_eq_true,Int.reduceLT,eqv_strs,pick_0,pick_01,pick_10,pick_012,pick_021,pick_102,pick_120,pick_201,pick_210]
  refine ⟨v, rfl, fun _ => ⟨hs, h⟩, fun z => ?_⟩
  rw [hv] at z
  cases z
section
variable {P : Program} {w : World} {K : Fg} {mg : Str → Option Value} {base : Heap}
theorem d_check_chainX (T : Tx w K mg) {cdv : Value} {A : Around} {outer : List Env} {s : Shared} {H : Hp} {E : XK} (hr : Room 4 (A.deeper (envOfC "check_chain" (defScope st_check_chain) s.heap.objs.size T.f_check_chain cdv))) (hgd : (A.deeper (envOfC "check_chain" (defScope st_check_chain) s.heap.objs.size T.f_check_chain cdv)).guards = some [])
    (tk : Takes (cxOf (L2.CX P w) P w K mg base N_check_chain "check_chain" (defScope st_check_chain) T.f_check_chain cdv A outer s H E) (fun cls d _ H => E cls d H)) :
    PSs (cxOf (L2.CX P w) P w K mg base N_check_chain "check_chain" (defScope st_check_chain) T.f_check_chain cdv A outer s H E) (defBody st_check_chain) (upS K (fun cls d _ H => E cls d H) b_check_chainX) :=
  (ss_one (s_if (t_not (t_val (e_call (ok_is_chain T) (hr.mono (by decide)) hgd (by rfl) T.g_is_chain T.F_is_chain.kp T.b_is_chain pass0 (a_cons (e_var 0 (pv 0)) a_nil)))) (ss_one (s_raise rfl tk T.xv_InvalidChain (ok_InvalidChain_init T) (hr.mono (by decide)) hgd T.b_InvalidChain_init (by rfl) T.g_InvalidChain (e_var 0 (pv 0)))) ss_nil))
theorem ok_check_chainX (T : Tx w K mg) : Fn P w K mg base (L2.CX P w) 5 T.f_check_chain T.fd_check_chain ["value"] (liftX K 1 fs_check_chainX) := fn_dataX T.F_check_chain sc_check_chain b_check_chainX (fun _ _ _ _ _ _ hr hgd tk => d_check_chainX T hr hgd tk) p_check_chainX
theorem ok_check_chainO (T : Tx w K mg) : Fn P w K mg base (L2.CX P w) 5 T.f_check_chain T.fd_check_chain ["value"] (liftX K 1 (orF fs_check_chain fs_check_chainX)) := fn_orX (ok_check_chain T) (ok_check_chainX T)
end
def b_last_width : DS :=
  (dSeq (dDrop (dCall 1 fs_check_chain (dCons (dVar 0) dNil)))
  (dRet (dCB cMinL (dCons (dFz (dLc [1, 2] (dItems (dVar 0)) (dT 2 (dTc (dN 1) (dTc (dN 2) dTn))) dYes (dVar 1))) dNil))))
def fs_last_width : FSp := fun rs fu post => ∃ c : List (Int × Ru), rs = [.val (chD c)] ∧ Chn1 c ∧ post (.val (.int (chT c).1)) fu
theorem p_last_width (rs : List Rv) (fu : Option Nat) (post : Rr → Option Nat → Prop) (hl : rs.length = 1) (h : fs_last_width rs fu post) : b_last_width ⟨fun g => post (.val .none) g.fu, fun r g => post r g.fu, fun _ => False, fun _ => False⟩ (ent N_last_width rs fu) := by
  obtain ⟨c, rfl, hc, h⟩ := h
  simp only [↓dSeq,↓dAsg,↓dSetL,↓dNext,↓dIfS,↓dRet,↓dRetL,↓dDrop,↓dNever,↓dAug,↓dPar,↓dParL,↓dApp,↓dVar,↓dC,↓dBin,↓fI,↓fI0,↓fAdd,↓fEq,↓fNe,↓fIn,↓dTest,↓dAndT,↓dOrT,↓dNotT,↓dAndV,↓dOrV,↓dNotV,↓dIf,↓dIsN,↓dChain,↓dNil,↓dCons,↓dTup,↓dLst,↓dFz,↓valsD,↓dIx,↓dCall,↓dCallL,↓hasSrc,↓rrv,↓dN,↓dT,↓dTn,↓dTc,↓rsv,↓Gs.set,↓dFor,↓dItems,↓dRange1,↓dLc,↓dCB,↓cLen,↓cAll,↓cTuple,↓cInt1,↓cInt2,↓dIsi,↓dSetS,↓oSub,↓oAddI,↓oMul,↓oDiv,↓oMod,↓oShl,↓oPow,↓oLt,↓oLe,↓oGt,↓oGe,↓oAbs,↓oMin,↓cMinL,↓cSortedD,↓dSl,↓oNo,↓oSo,↓dBy,↓dD0,↓cLZ,↓dEnum,↓fMulT,↓cReprX,↓dRaise,↓dRaise0,↓dStop,↓dDropX,↓dAsgX,↓dTup2X,↓dCallX,↓dXval,↓dTry,↓dHand,↓dAs,↓gAs,↓Gs.unset,↓rtN,↓dLam,↓dAct,↓lamF,↓gLam,↓plainO,↓Z.isNon,↓dIfT,b_last_width,fs_check_chain,ent,svOf,List.map_cons,List.map_nil,List.cons_append,List.nil_append,List.append_nil,List.replicate,List.length_cons,List.length_nil,List.getElem?_cons_zero,List.getElem?_cons_succ,List.getElem?_nil,List.set_cons_zero,List.set_cons_succ,Option.map_some,Option.map_none,Option.isNone_some,Option.isNone_none,forall_const,true_implies,false_implies,and_true,true_and,Bool.true_eq_false,Bool.false_eq_true,reduceCtorEq,noOwn,wipeS,hide,fuN_self,lcD,dYes,Nat.zero_add,Nat.reduceAdd,Nat.reduceLeDiff,Nat.reduceSub,atI_0,atI_1,atI_2,atI_3,atI_4,atI_5,Int.one_mul,eqv_ii,eqv_ss,eqv_num,shaped_int,shaped_num,shaped_none,shaped_ru,flat_str,flat_int,flat_none,List.all_cons,List.all_nil,Bool.and_true,decide_eq_true_eq,decide_eq_false_iff_not,Bool.not_eq_true',Bool.not_eq_false',Decidable.not_not,↓reduceIte,Bool.false_eq_true,Int.reduceLT,eqv_strs,pick_0,pick_01,pick_10,pick_012,pick_021,pick_102,pick_120,pick_201,pick_210]
  refine ⟨_, rfl, hc.is, ?_⟩
  unfold chD
  simp only [↓dSeq,↓dAsg,↓dSetL,↓dNext,↓dIfS,↓dRet,↓dRetL,↓dDrop,↓dNever,↓dAug,↓dPar,↓dParL,↓dApp,↓dVar,↓dC,↓dBin,↓fI,↓fI0,↓fAdd,↓fEq,↓fNe,↓fIn,↓dTest,↓dAndT,↓dOrT,↓dNotT,↓dAndV,↓dOrV,↓dNotV,↓dIf,↓dIsN,↓dChain,↓dNil,↓dCons,↓dTup,↓dLst,↓dFz,↓valsD,↓dIx,↓dCall,↓dCallL,↓hasSrc,↓rrv,↓dN,↓dT,↓dTn,↓dTc,↓rsv,↓Gs.set,↓dFor,↓dItems,↓dRange1,↓dLc,↓dCB,↓cLen,↓cAll,↓cTuple,↓cInt1,↓cInt2,↓dIsi,↓dSetS,↓oSub,↓oAddI,↓oMul,↓oDiv,↓oMod,↓oShl,↓oPow,↓oLt,↓oLe,↓oGt,↓oGe,↓oAbs,↓oMin,↓cMinL,↓cSortedD,↓dSl,↓oNo,↓oSo,↓dBy,↓dD0,↓cLZ,↓dEnum,↓fMulT,↓cReprX,↓dRaise,↓dRaise0,↓dStop,↓dDropX,↓dAsgX,↓dTup2X,↓dCallX,↓dXval,↓dTry,↓dHand,↓dAs,↓gAs,↓Gs.unset,↓rtN,↓dLam,↓dAct,↓lamF,↓gLam,↓plainO,↓Z.isNon,↓dIfT,ent,svOf,List.map_cons,List.map_nil,List.cons_append,List.nil_append,List.append_nil,List.replicate,List.length_cons,List.length_nil,List.getElem?_cons_zero,List.getElem?_cons_succ,List.getElem?_nil,List.set_cons_zero,List.set_cons_succ,Option.map_some,Option.map_none,Option.isNone_some,Option.isNone_none,forall_const,true_implies,false_implies,and_true,true_and,Bool.true_eq_false,Bool.false_eq_true,reduceCtorEq,noOwn,wipeS,hide,fuN_self,lcD,dYes,Nat.zero_add,Nat.reduceAdd,Nat.reduceLeDiff,Nat.reduceSub,atI_0,atI_1,atI_2,atI_3,atI_4,atI_5,Int.one_mul,eqv_ii,eqv_ss,eqv_num,shaped_int,shaped_num,shaped_none,shaped_ru,flat_str,flat_int,flat_none,List.all_cons,List.all_nil,Bool.and_true,decide_eq_true_eq,decide_eq_false_iff_not,Bool.not_eq_true',Bool.not_eq_false',Decidable.not_not,↓reduceIte,Bool.false_eq_true,Int.reduceLT,eqv_strs,pick_0,pick_01,pick_10,pick_012,pick_021,pick_102,pick_120,pick_201,pick_210]
  refine lc_mapT (fun d => match d with | .tuple (x :: _) => x | _ => .none) (fun x hx R N hR => ?_) (by have := hc.len; simp; omega) ?_
  · obtain ⟨s, hs, rfl⟩ := List.mem_map.mp hx
    unfold stD at hR ⊢
    simp only [↓dSeq,↓dAsg,↓dSetL,↓dNext,↓dIfS,↓dRet,↓dRetL,↓dDrop,↓dNever,↓dAug,↓dPar,↓dParL,↓dApp,↓dVar,↓dC,↓dBin,↓fI,↓fI0,↓fAdd,↓fEq,↓fNe,↓fIn,↓dTest,↓dAndT,↓dOrT,↓dNotT,↓dAndV,↓dOrV,↓dNotV,↓dIf,↓dIsN,↓dChain,↓dNil,↓dCons,↓dTup,↓dLst,↓dFz,↓valsD,↓dIx,↓dCall,↓dCallL,↓hasSrc,↓rrv,↓dN,↓dT,↓dTn,↓dTc,↓rsv,↓Gs.set,↓dFor,↓dItems,↓dRange1,↓dLc,↓dCB,↓cLen,↓cAll,↓cTuple,↓cInt1,↓cInt2,↓dIsi,↓dSetS,↓oSub,↓oAddI,↓oMul,↓oDiv,↓oMod,↓oShl,↓oPow,↓oLt,↓oLe,↓oGt,↓oGe,↓oAbs,↓oMin,↓cMinL,↓cSortedD,↓dSl,↓oNo,↓oSo,↓dBy,↓dD0,↓cLZ,↓dEnum,↓fMulT,↓cReprX,↓dRaise,↓dRaise0,↓dStop,↓dDropX,↓dAsgX,↓dTup2X,↓dCallX,↓dXval,↓dTry,↓dHand,↓dAs,↓gAs,↓Gs.unset,↓rtN,↓dLam,↓dAct,↓lamF,↓gLam,↓plainO,↓Z.isNon,↓dIfT,ent,svOf,List.map_cons,List.map_nil,List.cons_append,List.nil_append,List.append_nil,List.replicate,List.length_cons,List.length_nil,List.getElem?_cons_zero,List.getElem?_cons_succ,List.getElem?_nil,List.set_cons_zero,List.set_cons_succ,Option.map_some,Option.map_none,Option.isNone_some,Option.isNone_none,forall_const,true_implies,false_implies,and_true,true_and,Bool.true_eq_false,Bool.false_eq_true,reduceCtorEq,noOwn,wipeS,hide,fuN_self,lcD,dYes,Nat.zero_add,Nat.reduceAdd,Nat.reduceLeDiff,Nat.reduceSub,atI_0,atI_1,atI_2,atI_3,atI_4,atI_5,Int.one_mul,eqv_ii,eqv_ss,eqv_num,shaped_int,shaped_num,shaped_none,shaped_ru,flat_str,flat_int,flat_none,List.all_cons,List.all_nil,Bool.and_true,decide_eq_true_eq,decide_eq_false_iff_not,Bool.not_eq_true',Bool.not_eq_false',Decidable.not_not,↓reduceIte,Bool.false_eq_true,Int.reduceLT,eqv_strs,pick_0,pick_01,pick_10,pick_012,pick_021,pick_102,pick_120,pick_201,pick_210]
    exact hR _ rfl
  · have e : List.map (fun d => match d with | .tuple (x :: _) => x | _ => .none) (c.map stD) = (c.map Prod.fst).map PyData.int := by
      rw [List.map_map, List.map_map]
      rfl
    rw [List.nil_append, e, intsD_map]
    obtain ⟨m1, s, hs, m2⟩ := chT_min hc.ne
    refine ⟨by rw [List.length_map]; exact List.length_pos_iff.mpr hc.ne, fun m hm hy => ?_⟩
    obtain ⟨t, ht, rfl⟩ := List.mem_map.mp hm
    have a := hy s.1 (List.mem_map_of_mem hs)
    have b := m1 t ht
    have : t.1 = (chT c).1 := by omega
    rw [this]
    exact h
section
variable {P : Program} {w : World} {K : Fg} {mg : Str → Option Value} {base : Heap}
theorem d_last_width (T : Tx w K mg) {cdv : Value} {A : Around} {outer : List Env} {s : Shared} {H : Hp} {E : XK} (hr : Room 5 (A.deeper (envOfC "last_width" (defScope st_last_width) s.heap.objs.size T.f_last_width cdv))) (hgd : (A.deeper (envOfC "last_width" (defScope st_last_width) s.heap.objs.size T.f_last_width cdv)).guards = some []) :
    PSs (cxOf CX0 P w K mg base N_last_width "last_width" (defScope st_last_width) T.f_last_width cdv A outer s H E).nox (defBody st_last_width) (upS K W0 b_last_width) :=
  (ss_cons (s_expr (e_call (ok_check_chain T) (hr.mono (by decide)) hgd (by rfl) T.g_check_chain T.F_check_chain.kp T.b_check_chain pass0 (a_cons (e_var 0 (pv 0)) a_nil)))
    (ss_one (s_ret (e_minL rfl (by rfl) T.n_min (a_cons (e_fz (e_lc (own := [("width", 1), ("rule", 2)]) rfl sc_last_width.nd (i_items (e_var 0 (pv 0))) (blkOk_by (own := [("width", 1), ("rule", 2)]) (N := N_last_width) (sc := defScope st_last_width) (by decide +kernel)) (fun _ _ _ _ _ => (gw_tup rfl rfl (gsw_cons (gw_name rfl (pg_name (i := 1) sc_last_width.nd rfl (.inl rfl)) (by decide)) (gsw_cons (gw_name rfl (pg_name (i := 2) sc_last_width.nd rfl (.inl rfl)) (by decide)) gsw_nil)))) (fun _ _ _ _ _ => ts_yes) (fun _ _ _ _ _ => (e_var 1 (pv 1))))) a_nil)))))
theorem ok_last_width (T : Tx w K mg) : Fn P w K mg base CX0 6 T.f_last_width T.fd_last_width ["chain"] (lift K 1 fs_last_width) := fn_data T.F_last_width sc_last_width b_last_width (fun _ _ _ _ _ _ hr hgd => d_last_width T hr hgd) p_last_width
end
def b_trimmed : DS :=
  (dSeq (dDrop (dCall 1 fs_check_chain (dCons (dVar 0) dNil)))
  (dSeq (dParL 1 2 (dLst dNil) .none)
  (dSeq (dFor (dItems (dVar 0)) (dT 2 (dTc (dN 3) (dTc (dN 4) dTn)))
    (dIfS (dOrT (dTest (dIsN false (dVar 2))) (dTest (dBin oLt (dVar 3) (dVar 2))))
    (dSeq (dApp 1 (dTup (dCons (dVar 3) (dCons (dVar 4) dNil))))
  (dAsg (dVar 3) (dN 2)))
    dNext))
  (dRet (dCB cTuple (dCons (dVar 1) dNil))))))
def fs_trimmed : FSp := fun rs fu post => ∃ c : List (Int × Ru), rs = [.val (chD c)] ∧ Chn1 c ∧ post (.val (chD (trimI none c))) fu
def trB : DS := (dIfS (dOrT (dTest (dIsN false (dVar 2))) (dTest (dBin oLt (dVar 3) (dVar 2))))
    (dSeq (dApp 1 (dTup (dCons (dVar 3) (dCons (dVar 4) dNil))))
  (dAsg (dVar 3) (dN 2)))
    dNext)
def optI : Option Int → Da
  | none => .none
  | some i => .int i
theorem p_trB {D : DEnds} {x : Option Sv} {fu : Option Nat} : ∀ {c : List (Int × Ru)} {l : Option Int} {acc : List (Int × Ru)} {y z : Option Sv}, acc.length + c.length ≤ 100 →
    (∀ (l' : Option Int) (y z : Option Sv), D.nx ⟨[x, some (.own ((acc ++ trimI l c).map stD)), some (.val (optI l')), y, z], fu, fu.isNone⟩) →
    forD (dT 2 (dTc (dN 3) (dTc (dN 4) dTn))) trB (c.map stD) D ⟨[x, some (.own (acc.map stD)), some (.val (optI l)), y, z], fu, fu.isNone⟩
  | [], l, acc, y, z, _, h => by
    have := h l y z
    have e2 : trimI l ([] : List (Int × Ru)) = [] := by cases l <;> rfl
    rw [e2, List.append_nil] at this
    exact this
  | s :: c, l, acc, y, z, hl, h => by
    have ih1 : (∀ (l' : Option Int) (y z : Option Sv), D.nx ⟨[x, some (.own ((acc ++ s :: trimI (some s.1) c).map stD)), some (.val (optI l')), y, z], fu, fu.isNone⟩) →
        forD (dT 2 (dTc (dN 3) (dTc (dN 4) dTn))) trB (c.map stD) D ⟨[x, some (.own (acc.map stD ++ [stD s])), some (.val (.int s.1)), some (.val (.int s.1)), some (.val (.str s.2.s))], fu, fu.isNone⟩ := fun h' => by
      have ih := p_trB (D := D) (x := x) (fu := fu) (c := c) (l := some s.1) (acc := acc ++ [s]) (y := some (.val (.int s.1))) (z := some (.val (.str s.2.s))) (by simp only [List.length_append, List.length_cons, List.length_nil] at hl ⊢; omega) (fun l' y z => by
        have := h' l' y z
        rw [List.append_assoc]
        exact this)
      rw [List.map_append] at ih
      exact ih
    have hlen : (acc.map stD).length < 1000000 := by rw [List.length_map]; simp only [List.length_cons] at hl; omega
    show dT 2 _ (.val (.tuple [.int s.1, .str s.2.s])) _ _
    cases l with
    | none =>
      simp only [↓dSeq,↓dAsg,↓dSetL,↓dNext,↓dIfS,↓dRet,↓dRetL,↓dDrop,↓dNever,↓dAug,↓dPar,↓dParL,↓dApp,↓dVar,↓dC,↓dBin,↓fI,↓fI0,↓fAdd,↓fEq,↓fNe,↓fIn,↓dTest,↓dAndT,↓dOrT,↓dNotT,↓dAndV,↓dOrV,↓dNotV,↓dIf,↓dIsN,↓dChain,↓dNil,↓dCons,↓dTup,↓dLst,↓dFz,↓valsD,↓dIx,↓dCall,↓dCallL,↓hasSrc,↓rrv,↓dN,↓dT,↓dTn,↓dTc,↓rsv,↓Gs.set,↓dFor,↓dItems,↓dRange1,↓dLc,↓dCB,↓cLen,↓cAll,↓cTuple,↓cInt1,↓cInt2,↓dIsi,↓dSetS,↓oSub,↓oAddI,↓oMul,↓oDiv,↓oMod,↓oShl,↓oPow,↓oLt,↓oLe,↓oGt,↓oGe,↓oAbs,↓oMin,↓cMinL,↓cSortedD,↓dSl,↓oNo,↓oSo,↓dBy,↓dD0,↓cLZ,↓dEnum,↓fMulT,↓cReprX,↓dRaise,↓dRaise0,↓dStop,↓dDropX,↓dAsgX,↓dTup2X,↓dCallX,↓dXval,↓dTry,↓dHand,↓dAs,↓gAs,↓Gs.unset,↓rtN,↓dLam,↓dAct,↓lamF,↓gLam,↓plainO,↓Z.isNon,↓dIfT,trB,optI,Z.isNon,ent,svOf,List.map_cons,List.map_nil,List.cons_append,List.nil_append,List.append_nil,List.replicate,List.length_cons,List.length_nil,List.getElem?_cons_zero,List.getElem?_cons_succ,List.getElem?_nil,List.set_cons_zero,List.set_cons_succ,Option.map_some,Option.map_none,Option.isNone_some,Option.isNone_none,forall_const,true_implies,false_implies,and_true,true_and,Bool.true_eq_false,Bool.false_eq_true,reduceCtorEq,noOwn,wipeS,hide,fuN_self,lcD,dYes,Nat.zero_add,Nat.reduceAdd,Nat.reduceLeDiff,Nat.reduceSub,atI_0,atI_1,atI_2,atI_3,atI_4,atI_5,Int.one_mul,eqv_ii,eqv_ss,eqv_num,shaped_int,shaped_num,shaped_none,shaped_ru,flat_str,flat_int,flat_none,List.all_cons,List.all_nil,Bool.and_true,decide_eq_true_eq,decide_eq_false_iff_not,Bool.not_eq_true',Bool.not_eq_false',Decidable.not_not,↓reduceIte,Bool.false_eq_true,Int.reduceLT,eqv_strs,pick_0,pick_01,pick_10,pick_012,pick_021,pick_102,pick_120,pick_201,pick_210]
      exact ⟨⟨_, rfl⟩, hlen, ih1 fun l' y z => by have := h l' y z; rw [trimI] at this; exact this⟩
    | some l =>
      simp only [↓dSeq,↓dAsg,↓dSetL,↓dNext,↓dIfS,↓dRet,↓dRetL,↓dDrop,↓dNever,↓dAug,↓dPar,↓dParL,↓dApp,↓dVar,↓dC,↓dBin,↓fI,↓fI0,↓fAdd,↓fEq,↓fNe,↓fIn,↓dTest,↓dAndT,↓dOrT,↓dNotT,↓dAndV,↓dOrV,↓dNotV,↓dIf,↓dIsN,↓dChain,↓dNil,↓dCons,↓dTup,↓dLst,↓dFz,↓valsD,↓dIx,↓dCall,↓dCallL,↓hasSrc,↓rrv,↓dN,↓dT,↓dTn,↓dTc,↓rsv,↓Gs.set,↓dFor,↓dItems,↓dRange1,↓dLc,↓dCB,↓cLen,↓cAll,↓cTuple,↓cInt1,↓cInt2,↓dIsi,↓dSetS,↓oSub,↓oAddI,↓oMul,↓oDiv,↓oMod,↓oShl,↓oPow,↓oLt,↓oLe,↓oGt,↓oGe,↓oAbs,↓oMin,↓cMinL,↓cSortedD,↓dSl,↓oNo,↓oSo,↓dBy,↓dD0,↓cLZ,↓dEnum,↓fMulT,↓cReprX,↓dRaise,↓dRaise0,↓dStop,↓dDropX,↓dAsgX,↓dTup2X,↓dCallX,↓dXval,↓dTry,↓dHand,↓dAs,↓gAs,↓Gs.unset,↓rtN,↓dLam,↓dAct,↓lamF,↓gLam,↓plainO,↓Z.isNon,↓dIfT,trB,optI,Z.isNon,ent,svOf,List.map_cons,List.map_nil,List.cons_append,List.nil_append,List.append_nil,List.replicate,List.length_cons,List.length_nil,List.getElem?_cons_zero,List.getElem?_cons_succ,List.getElem?_nil,List.set_cons_zero,List.set_cons_succ,Option.map_some,Option.map_none,Option.isNone_some,Option.isNone_none,forall_const,true_implies,false_implies,and_true,true_and,Bool.true_eq_false,Bool.false_eq_true,reduceCtorEq,noOwn,wipeS,hide,fuN_self,lcD,dYes,Nat.zero_add,Nat.reduceAdd,Nat.reduceLeDiff,Nat.reduceSub,atI_0,atI_1,atI_2,atI_3,atI_4,atI_5,Int.one_mul,eqv_ii,eqv_ss,eqv_num,shaped_int,shaped_num,shaped_none,shaped_ru,flat_str,flat_int,flat_none,List.all_cons,List.all_nil,Bool.and_true,decide_eq_true_eq,decide_eq_false_iff_not,Bool.not_eq_true',Bool.not_eq_false',Decidable.not_not,↓reduceIte,Bool.false_eq_true,Int.reduceLT,eqv_strs,pick_0,pick_01,pick_10,pick_012,pick_021,pick_102,pick_120,pick_201,pick_210]
      refine ⟨fun q => ⟨⟨_, rfl⟩, hlen, ih1 fun l' y z => by have := h l' y z; rw [trimI, if_pos q] at this; exact this⟩, fun q => ?_⟩
      have ih := p_trB (D := D) (x := x) (fu := fu) (c := c) (l := some l) (acc := acc) (y := some (.val (.int s.1))) (z := some (.val (.str s.2.s))) (by simp only [List.length_cons] at hl; omega) (fun l' y z => by
        have := h l' y z
        rw [trimI, if_neg q] at this
        exact this)
      exact ih
theorem p_trimmed (rs : List Rv) (fu : Option Nat) (post : Rr → Option Nat → Prop) (hl : rs.length = 1) (h : fs_trimmed rs fu post) : b_trimmed ⟨fun g => post (.val .none) g.fu, fun r g => post r g.fu, fun _ => False, fun _ => False⟩ (ent N_trimmed rs fu) := by
  obtain ⟨c, rfl, hc, h⟩ := h
  simp only [↓dSeq,↓dAsg,↓dSetL,↓dNext,↓dIfS,↓dRet,↓dRetL,↓dDrop,↓dNever,↓dAug,↓dPar,↓dParL,↓dApp,↓dVar,↓dC,↓dBin,↓fI,↓fI0,↓fAdd,↓fEq,↓fNe,↓fIn,↓dTest,↓dAndT,↓dOrT,↓dNotT,↓dAndV,↓dOrV,↓dNotV,↓dIf,↓dIsN,↓dChain,↓dNil,↓dCons,↓dTup,↓dLst,↓dFz,↓valsD,↓dIx,↓dCall,↓dCallL,↓hasSrc,↓rrv,↓dN,↓dT,↓dTn,↓dTc,↓rsv,↓Gs.set,↓dFor,↓dItems,↓dRange1,↓dLc,↓dCB,↓cLen,↓cAll,↓cTuple,↓cInt1,↓cInt2,↓dIsi,↓dSetS,↓oSub,↓oAddI,↓oMul,↓oDiv,↓oMod,↓oShl,↓oPow,↓oLt,↓oLe,↓oGt,↓oGe,↓oAbs,↓oMin,↓cMinL,↓cSortedD,↓dSl,↓oNo,↓oSo,↓dBy,↓dD0,↓cLZ,↓dEnum,↓fMulT,↓cReprX,↓dRaise,↓dRaise0,↓dStop,↓dDropX,↓dAsgX,↓dTup2X,↓dCallX,↓dXval,↓dTry,↓dHand,↓dAs,↓gAs,↓Gs.unset,↓rtN,↓dLam,↓dAct,↓lamF,↓gLam,↓plainO,↓Z.isNon,↓dIfT,b_trimmed,fs_check_chain,ent,svOf,List.map_cons,List.map_nil,List.cons_append,List.nil_append,List.append_nil,List.replicate,List.length_cons,List.length_nil,List.getElem?_cons_zero,List.getElem?_cons_succ,List.getElem?_nil,List.set_cons_zero,List.set_cons_succ,Option.map_some,Option.map_none,Option.isNone_some,Option.isNone_none,forall_const,true_implies,false_implies,and_true,true_and,Bool.true_eq_false,Bool.false_eq_true,reduceCtorEq,noOwn,wipeS,hide,fuN_self,lcD,dYes,Nat.zero_add,Nat.reduceAdd,Nat.reduceLeDiff,Nat.reduceSub,atI_0,atI_1,atI_2,atI_3,atI_4,atI_5,Int.one_mul,eqv_ii,eqv_ss,eqv_num,shaped_int,shaped_num,shaped_none,shaped_ru,flat_str,flat_int,flat_none,List.all_cons,List.all_nil,Bool.and_true,decide_eq_true_eq,decide_eq_false_iff_not,Bool.not_eq_true',Bool.not_eq_false',Decidable.not_not,↓reduceIte,Bool.false_eq_true,Int.reduceLT,eqv_strs,pick_0,pick_01,pick_10,pick_012,pick_021,pick_102,pick_120,pick_201,pick_210]
  refine ⟨_, rfl, hc.is, ?_⟩
  unfold chD
  simp only [↓dSeq,↓dAsg,↓dSetL,↓dNext,↓dIfS,↓dRet,↓dRetL,↓dDrop,↓dNever,↓dAug,↓dPar,↓dParL,↓dApp,↓dVar,↓dC,↓dBin,↓fI,↓fI0,↓fAdd,↓fEq,↓fNe,↓fIn,↓dTest,↓dAndT,↓dOrT,↓dNotT,↓dAndV,↓dOrV,↓dNotV,↓dIf,↓dIsN,↓dChain,↓dNil,↓dCons,↓dTup,↓dLst,↓dFz,↓valsD,↓dIx,↓dCall,↓dCallL,↓hasSrc,↓rrv,↓dN,↓dT,↓dTn,↓dTc,↓rsv,↓Gs.set,↓dFor,↓dItems,↓dRange1,↓dLc,↓dCB,↓cLen,↓cAll,↓cTuple,↓cInt1,↓cInt2,↓dIsi,↓dSetS,↓oSub,↓oAddI,↓oMul,↓oDiv,↓oMod,↓oShl,↓oPow,↓oLt,↓oLe,↓oGt,↓oGe,↓oAbs,↓oMin,↓cMinL,↓cSortedD,↓dSl,↓oNo,↓oSo,↓dBy,↓dD0,↓cLZ,↓dEnum,↓fMulT,↓cReprX,↓dRaise,↓dRaise0,↓dStop,↓dDropX,↓dAsgX,↓dTup2X,↓dCallX,↓dXval,↓dTry,↓dHand,↓dAs,↓gAs,↓Gs.unset,↓rtN,↓dLam,↓dAct,↓lamF,↓gLam,↓plainO,↓Z.isNon,↓dIfT,dParL,ent,svOf,List.map_cons,List.map_nil,List.cons_append,List.nil_append,List.append_nil,List.replicate,List.length_cons,List.length_nil,List.getElem?_cons_zero,List.getElem?_cons_succ,List.getElem?_nil,List.set_cons_zero,List.set_cons_succ,Option.map_some,Option.map_none,Option.isNone_some,Option.isNone_none,forall_const,true_implies,false_implies,and_true,true_and,Bool.true_eq_false,Bool.false_eq_true,reduceCtorEq,noOwn,wipeS,hide,fuN_self,lcD,dYes,Nat.zero_add,Nat.reduceAdd,Nat.reduceLeDiff,Nat.reduceSub,atI_0,atI_1,atI_2,atI_3,atI_4,atI_5,Int.one_mul,eqv_ii,eqv_ss,eqv_num,shaped_int,shaped_num,shaped_none,shaped_ru,flat_str,flat_int,flat_none,List.all_cons,List.all_nil,Bool.and_true,decide_eq_true_eq,decide_eq_false_iff_not,Bool.not_eq_true',Bool.not_eq_false',Decidable.not_not,↓reduceIte,Bool.false_eq_true,Int.reduceLT,eqv_strs,pick_0,pick_01,pick_10,pick_012,pick_021,pick_102,pick_120,pick_201,pick_210]
  refine p_trB (acc := []) (l := none) (by have := hc.len; simp; omega) (fun l y z => ?_)
  simp only [↓dSeq,↓dAsg,↓dSetL,↓dNext,↓dIfS,↓dRet,↓dRetL,↓dDrop,↓dNever,↓dAug,↓dPar,↓dParL,↓dApp,↓dVar,↓dC,↓dBin,↓fI,↓fI0,↓fAdd,↓fEq,↓fNe,↓fIn,↓dTest,↓dAndT,↓dOrT,↓dNotT,↓dAndV,↓dOrV,↓dNotV,↓dIf,↓dIsN,↓dChain,↓dNil,↓dCons,↓dTup,↓dLst,↓dFz,↓valsD,↓dIx,↓dCall,↓dCallL,↓hasSrc,↓rrv,↓dN,↓dT,↓dTn,↓dTc,↓rsv,↓Gs.set,↓dFor,↓dItems,↓dRange1,↓dLc,↓dCB,↓cLen,↓cAll,↓cTuple,↓cInt1,↓cInt2,↓dIsi,↓dSetS,↓oSub,↓oAddI,↓oMul,↓oDiv,↓oMod,↓oShl,↓oPow,↓oLt,↓oLe,↓oGt,↓oGe,↓oAbs,↓oMin,↓cMinL,↓cSortedD,↓dSl,↓oNo,↓oSo,↓dBy,↓dD0,↓cLZ,↓dEnum,↓fMulT,↓cReprX,↓dRaise,↓dRaise0,↓dStop,↓dDropX,↓dAsgX,↓dTup2X,↓dCallX,↓dXval,↓dTry,↓dHand,↓dAs,↓gAs,↓Gs.unset,↓rtN,↓dLam,↓dAct,↓lamF,↓gLam,↓plainO,↓Z.isNon,↓dIfT,ent,svOf,List.map_cons,List.map_nil,List.cons_append,List.nil_append,List.append_nil,List.replicate,List.length_cons,List.length_nil,List.getElem?_cons_zero,List.getElem?_cons_succ,List.getElem?_nil,List.set_cons_zero,List.set_cons_succ,Option.map_some,Option.map_none,Option.isNone_some,Option.isNone_none,forall_const,true_implies,false_implies,and_true,true_and,Bool.true_eq_false,Bool.false_eq_true,reduceCtorEq,noOwn,wipeS,hide,fuN_self,lcD,dYes,Nat.zero_add,Nat.reduceAdd,Nat.reduceLeDiff,Nat.reduceSub,atI_0,atI_1,atI_2,atI_3,atI_4,atI_5,Int.one_mul,eqv_ii,eqv_ss,eqv_num,shaped_int,shaped_num,shaped_none,shaped_ru,flat_str,flat_int,flat_none,List.all_cons,List.all_nil,Bool.and_true,decide_eq_true_eq,decide_eq_false_iff_not,Bool.not_eq_true',Bool.not_eq_false',Decidable.not_not,↓reduceIte,Bool.false_eq_true,Int.reduceLT,eqv_strs,pick_0,pick_01,pick_10,pick_012,pick_021,pick_102,pick_120,pick_201,pick_210]
  exact h
section
variable {P : Program} {w : World} {K : Fg} {mg : Str → Option Value} {base : Heap}
theorem d_trimmed (T : Tx w K mg) {cdv : Value} {A : Around} {outer : List Env} {s : Shared} {H : Hp} {E : XK} (hr : Room 5 (A.deeper (envOfC "trimmed" (defScope st_trimmed) s.heap.objs.size T.f_trimmed cdv))) (hgd : (A.deeper (envOfC "trimmed" (defScope st_trimmed) s.heap.objs.size T.f_trimmed cdv)).guards = some []) :
    PSs (cxOf CX0 P w K mg base N_trimmed "trimmed" (defScope st_trimmed) T.f_trimmed cdv A outer s H E).nox (defBody st_trimmed) (upS K W0 b_trimmed) :=
  (ss_cons (s_expr (e_call (ok_check_chain T) (hr.mono (by decide)) hgd (by rfl) T.g_check_chain T.F_check_chain.kp T.b_check_chain pass0 (a_cons (e_var 0 (pv 0)) a_nil)))
    (ss_cons (s_parL (i := 1) (j := 2) rfl sc_trimmed.nd rfl rfl (by decide) rfl rfl (e_lstL a_nil) pe_non (fun _ => .non))
    (ss_cons (s_for PassesOwn.never rfl (i_items (e_var 0 (pv 0))) (g_tup rfl (gs_cons (g_name (pg_name (i := 3) sc_trimmed.nd rfl (.inl rfl))) (gs_cons (g_name (pg_name (i := 4) sc_trimmed.nd rfl (.inl rfl))) gs_nil))) (ss_one (s_if (PW.pt (w_or (t_isN (e_var 2 (pv 2))) (w_or1 (t_lt (e_var 3 (pv 3)) (e_var 2 (pv 2)))))) (ss_cons (s_app (name := "x") (pv 1) (e_tup (a_cons (e_var 3 (pv 3)) (a_cons (e_var 4 (pv 4)) a_nil))) (fun h => pe_bm PySem.F.plainAttrs_list PySem.F.slot_list_append PySem.F.type_list_append mt_append (pv 1) h))
    (ss_one (s_set (i := 2) sc_trimmed.nd rfl (.inl rfl) (e_var 3 (pv 3))))) ss_nil)))
    (ss_one (s_ret (e_tuple (by rfl) T.n_tuple (a_cons (e_var 1 (pv 1)) a_nil)))))))
theorem ok_trimmed (T : Tx w K mg) : Fn P w K mg base CX0 6 T.f_trimmed T.fd_trimmed ["chain"] (lift K 1 fs_trimmed) := fn_data T.F_trimmed sc_trimmed b_trimmed (fun _ _ _ _ _ _ hr hgd => d_trimmed T hr hgd) p_trimmed
end
def b_last_down : DS :=
  (dSeq (dAsg (dIx (dBy tab_BY_RULE (dVar 0)) (dVar 2)) (dT 2 (dTc (dN 3) (dTc (dN 4) dTn))))
  (dSeq (dAsg (dBin oShl (dC (.int 1)) (dVar 1)) (dN 5))
  (dSeq (dAsg (dBin oDiv (dBin oMul (dIx (dVar 3) (dC (.int 0))) (dVar 5)) (dIx (dVar 3) (dC (.int 1)))) (dN 6))
  (dRet (dIf (dTest (dBin fEq (dVar 4) (dC (.str "down")))) (dVar 6) (dBin oSub (dVar 6) (dC (.int 1))))))))
theorem tab_by (r : Ru) : tab_BY_RULE r = prF (byR r) := by cases r <;> rfl
def fs_last_down : FSp := fun rs fu post => ∃ (r : Ru) (far par : Int), rs = [.val (.str r.s), .val (.int far), .val (.int par)] ∧ 1 ≤ far ∧ far ≤ 200 ∧ 0 ≤ par ∧ par ≤ 1 ∧ post (.val (.int (lastI r far.toNat (decide (par = 1))))) fu
theorem p_last_down (rs : List Rv) (fu : Option Nat) (post : Rr → Option Nat → Prop) (hl : rs.length = 3) (h : fs_last_down rs fu post) : b_last_down ⟨fun g => post (.val .none) g.fu, fun r g => post r g.fu, fun _ => False, fun _ => False⟩ (ent N_last_down rs fu) := by
  obtain ⟨r, far, par, rfl, h1, h2, p0, p1, h⟩ := h
  simp only [↓dSeq,↓dAsg,↓dSetL,↓dNext,↓dIfS,↓dRet,↓dRetL,↓dDrop,↓dNever,↓dAug,↓dPar,↓dParL,↓dApp,↓dVar,↓dC,↓dBin,↓fI,↓fI0,↓fAdd,↓fEq,↓fNe,↓fIn,↓dTest,↓dAndT,↓dOrT,↓dNotT,↓dAndV,↓dOrV,↓dNotV,↓dIf,↓dIsN,↓dChain,↓dNil,↓dCons,↓dTup,↓dLst,↓dFz,↓valsD,↓dIx,↓dCall,↓dCallL,↓hasSrc,↓rrv,↓dN,↓dT,↓dTn,↓dTc,↓rsv,↓Gs.set,↓dFor,↓dItems,↓dRange1,↓dLc,↓dCB,↓cLen,↓cAll,↓cTuple,↓cInt1,↓cInt2,↓dIsi,↓dSetS,↓oSub,↓oAddI,↓oMul,↓oDiv,↓oMod,↓oShl,↓oPow,↓oLt,↓oLe,↓oGt,↓oGe,↓oAbs,↓oMin,↓cMinL,↓cSortedD,↓dSl,↓oNo,↓oSo,↓dBy,↓dD0,↓cLZ,↓dEnum,↓fMulT,↓cReprX,↓dRaise,↓dRaise0,↓dStop,↓dDropX,↓dAsgX,↓dTup2X,↓dCallX,↓dXval,↓dTry,↓dHand,↓dAs,↓gAs,↓Gs.unset,↓rtN,↓dLam,↓dAct,↓lamF,↓gLam,↓plainO,↓Z.isNon,↓dIfT,b_last_down,ent,svOf,List.map_cons,List.map_nil,List.cons_append,List.nil_append,List.append_nil,List.replicate,List.length_cons,List.length_nil,List.getElem?_cons_zero,List.getElem?_cons_succ,List.getElem?_nil,List.set_cons_zero,List.set_cons_succ,Option.map_some,Option.map_none,Option.isNone_some,Option.isNone_none,forall_const,true_implies,false_implies,and_true,true_and,Bool.true_eq_false,Bool.false_eq_true,reduceCtorEq,noOwn,wipeS,hide,fuN_self,lcD,dYes,Nat.zero_add,Nat.reduceAdd,Nat.reduceLeDiff,Nat.reduceSub,atI_0,atI_1,atI_2,atI_3,atI_4,atI_5,Int.one_mul,eqv_ii,eqv_ss,eqv_num,shaped_int,shaped_num,shaped_none,shaped_ru,flat_str,flat_int,flat_none,List.all_cons,List.all_nil,Bool.and_true,decide_eq_true_eq,decide_eq_false_iff_not,Bool.not_eq_true',Bool.not_eq_false',Decidable.not_not,↓reduceIte,Bool.false_eq_true,Int.reduceLT,eqv_strs,pick_0,pick_01,pick_10,pick_012,pick_021,pick_102,pick_120,pick_201,pick_210]
  refine ⟨r, rfl, ?_⟩
  have e : (if par = 1 then thD (byR r true) else thD (byR r false)) = thD (byR r (decide (par = 1))) := by
    by_cases q : par = 1
    · rw [if_pos q, decide_eq_true q]
    · rw [if_neg q, decide_eq_false q]
  have b1 : Bn 64 (1 : Int) := Bn.small (by decide) (by decide) (by decide)
  have ok := byR_ok r (decide (par = 1))
  obtain ⟨t1, t2⟩ := (byR_B r).bn (decide (par = 1))
  have bp : Bn 202 ((2 : Int) ^ far.toNat) := Bn.pow2 (by omega)
  unfold lastI at h
  rw [tab_by]
  simp only [↓dSeq,↓dAsg,↓dSetL,↓dNext,↓dIfS,↓dRet,↓dRetL,↓dDrop,↓dNever,↓dAug,↓dPar,↓dParL,↓dApp,↓dVar,↓dC,↓dBin,↓fI,↓fI0,↓fAdd,↓fEq,↓fNe,↓fIn,↓dTest,↓dAndT,↓dOrT,↓dNotT,↓dAndV,↓dOrV,↓dNotV,↓dIf,↓dIsN,↓dChain,↓dNil,↓dCons,↓dTup,↓dLst,↓dFz,↓valsD,↓dIx,↓dCall,↓dCallL,↓hasSrc,↓rrv,↓dN,↓dT,↓dTn,↓dTc,↓rsv,↓Gs.set,↓dFor,↓dItems,↓dRange1,↓dLc,↓dCB,↓cLen,↓cAll,↓cTuple,↓cInt1,↓cInt2,↓dIsi,↓dSetS,↓oSub,↓oAddI,↓oMul,↓oDiv,↓oMod,↓oShl,↓oPow,↓oLt,↓oLe,↓oGt,↓oGe,↓oAbs,↓oMin,↓cMinL,↓cSortedD,↓dSl,↓oNo,↓oSo,↓dBy,↓dD0,↓cLZ,↓dEnum,↓fMulT,↓cReprX,↓dRaise,↓dRaise0,↓dStop,↓dDropX,↓dAsgX,↓dTup2X,↓dCallX,↓dXval,↓dTry,↓dHand,↓dAs,↓gAs,↓Gs.unset,↓rtN,↓dLam,↓dAct,↓lamF,↓gLam,↓plainO,↓Z.isNon,↓dIfT,prF,ent,svOf,List.map_cons,List.map_nil,List.cons_append,List.nil_append,List.append_nil,List.replicate,List.length_cons,List.length_nil,List.getElem?_cons_zero,List.getElem?_cons_succ,List.getElem?_nil,List.set_cons_zero,List.set_cons_succ,Option.map_some,Option.map_none,Option.isNone_some,Option.isNone_none,forall_const,true_implies,false_implies,and_true,true_and,Bool.true_eq_false,Bool.false_eq_true,reduceCtorEq,noOwn,wipeS,hide,fuN_self,lcD,dYes,Nat.zero_add,Nat.reduceAdd,Nat.reduceLeDiff,Nat.reduceSub,atI_0,atI_1,atI_2,atI_3,atI_4,atI_5,Int.one_mul,eqv_ii,eqv_ss,eqv_num,shaped_int,shaped_num,shaped_none,shaped_ru,flat_str,flat_int,flat_none,List.all_cons,List.all_nil,Bool.and_true,decide_eq_true_eq,decide_eq_false_iff_not,Bool.not_eq_true',Bool.not_eq_false',Decidable.not_not,↓reduceIte,Bool.false_eq_true,Int.reduceLT,eqv_strs,pick_0,pick_01,pick_10,pick_012,pick_021,pick_102,pick_120,pick_201,pick_210]
  rw [atI_par p0 p1, e]
  generalize byR r (decide (par = 1)) = t at *
  simp only [↓dSeq,↓dAsg,↓dSetL,↓dNext,↓dIfS,↓dRet,↓dRetL,↓dDrop,↓dNever,↓dAug,↓dPar,↓dParL,↓dApp,↓dVar,↓dC,↓dBin,↓fI,↓fI0,↓fAdd,↓fEq,↓fNe,↓fIn,↓dTest,↓dAndT,↓dOrT,↓dNotT,↓dAndV,↓dOrV,↓dNotV,↓dIf,↓dIsN,↓dChain,↓dNil,↓dCons,↓dTup,↓dLst,↓dFz,↓valsD,↓dIx,↓dCall,↓dCallL,↓hasSrc,↓rrv,↓dN,↓dT,↓dTn,↓dTc,↓rsv,↓Gs.set,↓dFor,↓dItems,↓dRange1,↓dLc,↓dCB,↓cLen,↓cAll,↓cTuple,↓cInt1,↓cInt2,↓dIsi,↓dSetS,↓oSub,↓oAddI,↓oMul,↓oDiv,↓oMod,↓oShl,↓oPow,↓oLt,↓oLe,↓oGt,↓oGe,↓oAbs,↓oMin,↓cMinL,↓cSortedD,↓dSl,↓oNo,↓oSo,↓dBy,↓dD0,↓cLZ,↓dEnum,↓fMulT,↓cReprX,↓dRaise,↓dRaise0,↓dStop,↓dDropX,↓dAsgX,↓dTup2X,↓dCallX,↓dXval,↓dTry,↓dHand,↓dAs,↓gAs,↓Gs.unset,↓rtN,↓dLam,↓dAct,↓lamF,↓gLam,↓plainO,↓Z.isNon,↓dIfT,thD,Int.one_mul,ent,svOf,List.map_cons,List.map_nil,List.cons_append,List.nil_append,List.append_nil,List.replicate,List.length_cons,List.length_nil,List.getElem?_cons_zero,List.getElem?_cons_succ,List.getElem?_nil,List.set_cons_zero,List.set_cons_succ,Option.map_some,Option.map_none,Option.isNone_some,Option.isNone_none,forall_const,true_implies,false_implies,and_true,true_and,Bool.true_eq_false,Bool.false_eq_true,reduceCtorEq,noOwn,wipeS,hide,fuN_self,lcD,dYes,Nat.zero_add,Nat.reduceAdd,Nat.reduceLeDiff,Nat.reduceSub,atI_0,atI_1,atI_2,atI_3,atI_4,atI_5,Int.one_mul,eqv_ii,eqv_ss,eqv_num,shaped_int,shaped_num,shaped_none,shaped_ru,flat_str,flat_int,flat_none,List.all_cons,List.all_nil,Bool.and_true,decide_eq_true_eq,decide_eq_false_iff_not,Bool.not_eq_true',Bool.not_eq_false',Decidable.not_not,↓reduceIte,Bool.false_eq_true,Int.reduceLT,eqv_strs,pick_0,pick_01,pick_10,pick_012,pick_021,pick_102,pick_120,pick_201,pick_210]
  refine ⟨shlX 64 b1 (by omega) (by omega), mulX 2 202 t1 bp (by decide), divX 2 ok.d0 t2 (by decide), shaped_sd _, shaped_dn, ?_⟩
  refine ⟨fun z => ?_, fun z => ?_⟩
  · rw [if_pos ((dec_dn _).mp z)] at h
    exact h
  · rw [if_neg (fun q => z ((dec_dn _).mpr q))] at h
    exact h
section
variable {P : Program} {w : World} {K : Fg} {mg : Str → Option Value} {base : Heap}
theorem d_last_down (T : Tx w K mg) {cdv : Value} {A : Around} {outer : List Env} {s : Shared} {H : Hp} {E : XK} (hr : Room 0 (A.deeper (envOfC "last_down" (defScope st_last_down) s.heap.objs.size T.f_last_down cdv))) (hgd : (A.deeper (envOfC "last_down" (defScope st_last_down) s.heap.objs.size T.f_last_down cdv)).guards = some []) :
    PSs (cxOf CX0 P w K mg base N_last_down "last_down" (defScope st_last_down) T.f_last_down cdv A outer s H E).nox (defBody st_last_down) (upS K W0 b_last_down) :=
  (ss_cons (s_asg (e_ix (e_by (by rfl) T.c_BY_RULE T.k_BY_RULE (e_var 0 (pv 0))) (e_var 2 (pv 2))) (g_tup rfl (gs_cons (g_name (pg_name (i := 3) sc_last_down.nd rfl (.inl rfl))) (gs_cons (g_name (pg_name (i := 4) sc_last_down.nd rfl (.inl rfl))) gs_nil))))
    (ss_cons (s_set (i := 5) sc_last_down.nd rfl (.inl rfl) (e_shl e_int (e_var 1 (pv 1))))
    (ss_cons (s_set (i := 6) sc_last_down.nd rfl (.inl rfl) (e_div (e_mul (e_ix (e_var 3 (pv 3)) e_int) (e_var 5 (pv 5))) (e_ix (e_var 3 (pv 3)) e_int)))
    (ss_one (s_ret (e_if (t_eq hr.units (e_var 4 (pv 4)) (e_glob (by rfl) T.c_DOWN T.v_DOWN T.r_DOWN)) (e_var 6 (pv 6)) (e_sub (e_var 6 (pv 6)) e_int)))))))
theorem ok_last_down (T : Tx w K mg) : Fn P w K mg base CX0 1 T.f_last_down T.fd_last_down ["rule", "far", "parity"] (lift K 3 fs_last_down) := fn_data T.F_last_down sc_last_down b_last_down (fun _ _ _ _ _ _ hr hgd => d_last_down T hr hgd) p_last_down
end
def b_combined : DS :=
  (dSeq (dSetL 3 (dLst dNil))
  (dSeq (dFor (dItems (dTup (dCons (dC (.int 0)) (dCons (dC (.int 1)) dNil)))) (dN 4)
    (dSeq (dAsg (dCall 3 fs_last_down (dCons (dVar 1) (dCons (dVar 2) (dCons (dVar 4) dNil)))) (dN 5))
  (dSeq (dAsg (dIx (dVar 0) (dBin oMod (dVar 5) (dC (.int 2)))) (dT 2 (dTc (dT 2 (dTc (dN 6) (dTc (dN 7) dTn))) (dTc (dN 8) dTn))))
  (dApp 3 (dTup (dCons (dCall 2 fs_lowest (dCons (dBin fAdd (dBin oMul (dVar 5) (dVar 7)) (dVar 6)) (dCons (dBin oShl (dVar 7) (dVar 2)) dNil))) (dCons (dVar 8) dNil)))))))
  (dRet (dCB cTuple (dCons (dVar 3) dNil)))))
def fs_combined : FSp := fun rs fu post => ∃ (T : Bool → Th) (m : Nat) (r : Ru) (far : Int), rs = [.val (prF T), .val (.str r.s), .val (.int far)] ∧ ThB m T ∧ m ≤ 400 ∧ 1 ≤ far ∧ far ≤ 200 ∧ post (.val (prF (combI T r far.toNat))) fu
theorem p_combined (rs : List Rv) (fu : Option Nat) (post : Rr → Option Nat → Prop) (hl : rs.length = 3) (h : fs_combined rs fu post) : b_combined ⟨fun g => post (.val .none) g.fu, fun r g => post r g.fu, fun _ => False, fun _ => False⟩ (ent N_combined rs fu) := by
  obtain ⟨T, m, r, far, rfl, hT, hm, h1, h2, h⟩ := h
  have bp : Bn 202 ((2 : Int) ^ far.toNat) := Bn.pow2 (by omega)
  have bi : ∀ b, 0 ≤ lastI r far.toNat b ∧ Bn 202 (lastI r far.toNat b) := fun b => by
    obtain ⟨l0, l1⟩ := last_rng (r := r) (b := b) (show 1 ≤ far.toNat by omega)
    exact ⟨l0, bp.le l0 (Int.le_of_lt l1)⟩
  have bd : ∀ b, Bn 401 (T b).n ∧ Bn 401 (T b).d := fun b => ⟨(hT.bn b).1.mono (by omega), (hT.bn b).2.mono (by omega)⟩
  have gd : ∀ b, 0 < (T b).d * 2 ^ far.toNat ∧ Bn 900 ((T b).d * 2 ^ far.toNat) := fun b => ⟨Int.mul_pos (hT.ok b).d0 (pow2_pos _), (shlB (bd b).2).mono (by omega)⟩
  have key : ∀ b i, lastI r far.toNat b = i → (T (decide (i % 2 = 1))).n = (T (decide (i % 2 = 1))).n := fun _ _ _ => rfl
  simp only [↓dSeq,↓dAsg,↓dSetL,↓dNext,↓dIfS,↓dRet,↓dRetL,↓dDrop,↓dNever,↓dAug,↓dPar,↓dParL,↓dApp,↓dVar,↓dC,↓dBin,↓fI,↓fI0,↓fAdd,↓fEq,↓fNe,↓fIn,↓dTest,↓dAndT,↓dOrT,↓dNotT,↓dAndV,↓dOrV,↓dNotV,↓dIf,↓dIsN,↓dChain,↓dNil,↓dCons,↓dTup,↓dLst,↓dFz,↓valsD,↓dIx,↓dCall,↓dCallL,↓hasSrc,↓rrv,↓dN,↓dT,↓dTn,↓dTc,↓rsv,↓Gs.set,↓dFor,↓dItems,↓dRange1,↓dLc,↓dCB,↓cLen,↓cAll,↓cTuple,↓cInt1,↓cInt2,↓dIsi,↓dSetS,↓oSub,↓oAddI,↓oMul,↓oDiv,↓oMod,↓oShl,↓oPow,↓oLt,↓oLe,↓oGt,↓oGe,↓oAbs,↓oMin,↓cMinL,↓cSortedD,↓dSl,↓oNo,↓oSo,↓dBy,↓dD0,↓cLZ,↓dEnum,↓fMulT,↓cReprX,↓dRaise,↓dRaise0,↓dStop,↓dDropX,↓dAsgX,↓dTup2X,↓dCallX,↓dXval,↓dTry,↓dHand,↓dAs,↓gAs,↓Gs.unset,↓rtN,↓dLam,↓dAct,↓lamF,↓gLam,↓plainO,↓Z.isNon,↓dIfT,b_combined,forD,fs_last_down,ent,svOf,List.map_cons,List.map_nil,List.cons_append,List.nil_append,List.append_nil,List.replicate,List.length_cons,List.length_nil,List.getElem?_cons_zero,List.getElem?_cons_succ,List.getElem?_nil,List.set_cons_zero,List.set_cons_succ,Option.map_some,Option.map_none,Option.isNone_some,Option.isNone_none,forall_const,true_implies,false_implies,and_true,true_and,Bool.true_eq_false,Bool.false_eq_true,reduceCtorEq,noOwn,wipeS,hide,fuN_self,lcD,dYes,Nat.zero_add,Nat.reduceAdd,Nat.reduceLeDiff,Nat.reduceSub,atI_0,atI_1,atI_2,atI_3,atI_4,atI_5,Int.one_mul,eqv_ii,eqv_ss,eqv_num,shaped_int,shaped_num,shaped_none,shaped_ru,flat_str,flat_int,flat_none,List.all_cons,List.all_nil,Bool.and_true,decide_eq_true_eq,decide_eq_false_iff_not,Bool.not_eq_true',Bool.not_eq_false',Decidable.not_not,↓reduceIte,Bool.false_eq_true,Int.reduceLT,eqv_strs,pick_0,pick_01,pick_10,pick_012,pick_021,pick_102,pick_120,pick_201,pick_210]
  refine ⟨r, far, 0, rfl, h1, h2, by decide, by decide, ?_⟩
  rw [show (decide ((0 : Int) = 1)) = false from rfl]
  simp only [↓dSeq,↓dAsg,↓dSetL,↓dNext,↓dIfS,↓dRet,↓dRetL,↓dDrop,↓dNever,↓dAug,↓dPar,↓dParL,↓dApp,↓dVar,↓dC,↓dBin,↓fI,↓fI0,↓fAdd,↓fEq,↓fNe,↓fIn,↓dTest,↓dAndT,↓dOrT,↓dNotT,↓dAndV,↓dOrV,↓dNotV,↓dIf,↓dIsN,↓dChain,↓dNil,↓dCons,↓dTup,↓dLst,↓dFz,↓valsD,↓dIx,↓dCall,↓dCallL,↓hasSrc,↓rrv,↓dN,↓dT,↓dTn,↓dTc,↓rsv,↓Gs.set,↓dFor,↓dItems,↓dRange1,↓dLc,↓dCB,↓cLen,↓cAll,↓cTuple,↓cInt1,↓cInt2,↓dIsi,↓dSetS,↓oSub,↓oAddI,↓oMul,↓oDiv,↓oMod,↓oShl,↓oPow,↓oLt,↓oLe,↓oGt,↓oGe,↓oAbs,↓oMin,↓cMinL,↓cSortedD,↓dSl,↓oNo,↓oSo,↓dBy,↓dD0,↓cLZ,↓dEnum,↓fMulT,↓cReprX,↓dRaise,↓dRaise0,↓dStop,↓dDropX,↓dAsgX,↓dTup2X,↓dCallX,↓dXval,↓dTry,↓dHand,↓dAs,↓gAs,↓Gs.unset,↓rtN,↓dLam,↓dAct,↓lamF,↓gLam,↓plainO,↓Z.isNon,↓dIfT,prF,ent,svOf,List.map_cons,List.map_nil,List.cons_append,List.nil_append,List.append_nil,List.replicate,List.length_cons,List.length_nil,List.getElem?_cons_zero,List.getElem?_cons_succ,List.getElem?_nil,List.set_cons_zero,List.set_cons_succ,Option.map_some,Option.map_none,Option.isNone_some,Option.isNone_none,forall_const,true_implies,false_implies,and_true,true_and,Bool.true_eq_false,Bool.false_eq_true,reduceCtorEq,noOwn,wipeS,hide,fuN_self,lcD,dYes,Nat.zero_add,Nat.reduceAdd,Nat.reduceLeDiff,Nat.reduceSub,atI_0,atI_1,atI_2,atI_3,atI_4,atI_5,Int.one_mul,eqv_ii,eqv_ss,eqv_num,shaped_int,shaped_num,shaped_none,shaped_ru,flat_str,flat_int,flat_none,List.all_cons,List.all_nil,Bool.and_true,decide_eq_true_eq,decide_eq_false_iff_not,Bool.not_eq_true',Bool.not_eq_false',Decidable.not_not,↓reduceIte,Bool.false_eq_true,Int.reduceLT,eqv_strs,pick_0,pick_01,pick_10,pick_012,pick_021,pick_102,pick_120,pick_201,pick_210]
  rw [pick_par]
  simp only [↓dSeq,↓dAsg,↓dSetL,↓dNext,↓dIfS,↓dRet,↓dRetL,↓dDrop,↓dNever,↓dAug,↓dPar,↓dParL,↓dApp,↓dVar,↓dC,↓dBin,↓fI,↓fI0,↓fAdd,↓fEq,↓fNe,↓fIn,↓dTest,↓dAndT,↓dOrT,↓dNotT,↓dAndV,↓dOrV,↓dNotV,↓dIf,↓dIsN,↓dChain,↓dNil,↓dCons,↓dTup,↓dLst,↓dFz,↓valsD,↓dIx,↓dCall,↓dCallL,↓hasSrc,↓rrv,↓dN,↓dT,↓dTn,↓dTc,↓rsv,↓Gs.set,↓dFor,↓dItems,↓dRange1,↓dLc,↓dCB,↓cLen,↓cAll,↓cTuple,↓cInt1,↓cInt2,↓dIsi,↓dSetS,↓oSub,↓oAddI,↓oMul,↓oDiv,↓oMod,↓oShl,↓oPow,↓oLt,↓oLe,↓oGt,↓oGe,↓oAbs,↓oMin,↓cMinL,↓cSortedD,↓dSl,↓oNo,↓oSo,↓dBy,↓dD0,↓cLZ,↓dEnum,↓fMulT,↓cReprX,↓dRaise,↓dRaise0,↓dStop,↓dDropX,↓dAsgX,↓dTup2X,↓dCallX,↓dXval,↓dTry,↓dHand,↓dAs,↓gAs,↓Gs.unset,↓rtN,↓dLam,↓dAct,↓lamF,↓gLam,↓plainO,↓Z.isNon,↓dIfT,thD,fs_lowest,ent,svOf,List.map_cons,List.map_nil,List.cons_append,List.nil_append,List.append_nil,List.replicate,List.length_cons,List.length_nil,List.getElem?_cons_zero,List.getElem?_cons_succ,List.getElem?_nil,List.set_cons_zero,List.set_cons_succ,Option.map_some,Option.map_none,Option.isNone_some,Option.isNone_none,forall_const,true_implies,false_implies,and_true,true_and,Bool.true_eq_false,Bool.false_eq_true,reduceCtorEq,noOwn,wipeS,hide,fuN_self,lcD,dYes,Nat.zero_add,Nat.reduceAdd,Nat.reduceLeDiff,Nat.reduceSub,atI_0,atI_1,atI_2,atI_3,atI_4,atI_5,Int.one_mul,eqv_ii,eqv_ss,eqv_num,shaped_int,shaped_num,shaped_none,shaped_ru,flat_str,flat_int,flat_none,List.all_cons,List.all_nil,Bool.and_true,decide_eq_true_eq,decide_eq_false_iff_not,Bool.not_eq_true',Bool.not_eq_false',Decidable.not_not,↓reduceIte,Bool.false_eq_true,Int.reduceLT,eqv_strs,pick_0,pick_01,pick_10,pick_012,pick_021,pick_102,pick_120,pick_201,pick_210]
  refine ⟨⟨_, rfl⟩, mulX 202 401 (bi _).2 (bd _).2 (by decide), shlX 401 (bd _).2 (by omega) (by omega), _, _, rfl, ?_, (gd _).1, (gd _).2.mono (by decide), ?_⟩
  · have := Int.mul_nonneg (bi false).1 (Int.le_of_lt (hT.ok (decide (lastI r far.toNat false % 2 = 1))).d0)
    have := (hT.ok (decide (lastI r far.toNat false % 2 = 1))).n0
    omega
  refine ⟨by simp, r, far, 1, rfl, h1, h2, by decide, by decide, ?_⟩
  have pp := pick_par (T := T) (k := lastI r far.toNat true)
  simp only [thD] at pp
  rw [show (decide ((1 : Int) = 1)) = true from rfl, pp]
  simp only [↓dSeq,↓dAsg,↓dSetL,↓dNext,↓dIfS,↓dRet,↓dRetL,↓dDrop,↓dNever,↓dAug,↓dPar,↓dParL,↓dApp,↓dVar,↓dC,↓dBin,↓fI,↓fI0,↓fAdd,↓fEq,↓fNe,↓fIn,↓dTest,↓dAndT,↓dOrT,↓dNotT,↓dAndV,↓dOrV,↓dNotV,↓dIf,↓dIsN,↓dChain,↓dNil,↓dCons,↓dTup,↓dLst,↓dFz,↓valsD,↓dIx,↓dCall,↓dCallL,↓hasSrc,↓rrv,↓dN,↓dT,↓dTn,↓dTc,↓rsv,↓Gs.set,↓dFor,↓dItems,↓dRange1,↓dLc,↓dCB,↓cLen,↓cAll,↓cTuple,↓cInt1,↓cInt2,↓dIsi,↓dSetS,↓oSub,↓oAddI,↓oMul,↓oDiv,↓oMod,↓oShl,↓oPow,↓oLt,↓oLe,↓oGt,↓oGe,↓oAbs,↓oMin,↓cMinL,↓cSortedD,↓dSl,↓oNo,↓oSo,↓dBy,↓dD0,↓cLZ,↓dEnum,↓fMulT,↓cReprX,↓dRaise,↓dRaise0,↓dStop,↓dDropX,↓dAsgX,↓dTup2X,↓dCallX,↓dXval,↓dTry,↓dHand,↓dAs,↓gAs,↓Gs.unset,↓rtN,↓dLam,↓dAct,↓lamF,↓gLam,↓plainO,↓Z.isNon,↓dIfT,thD,fs_lowest,ent,svOf,List.map_cons,List.map_nil,List.cons_append,List.nil_append,List.append_nil,List.replicate,List.length_cons,List.length_nil,List.getElem?_cons_zero,List.getElem?_cons_succ,List.getElem?_nil,List.set_cons_zero,List.set_cons_succ,Option.map_some,Option.map_none,Option.isNone_some,Option.isNone_none,forall_const,true_implies,false_implies,and_true,true_and,Bool.true_eq_false,Bool.false_eq_true,reduceCtorEq,noOwn,wipeS,hide,fuN_self,lcD,dYes,Nat.zero_add,Nat.reduceAdd,Nat.reduceLeDiff,Nat.reduceSub,atI_0,atI_1,atI_2,atI_3,atI_4,atI_5,Int.one_mul,eqv_ii,eqv_ss,eqv_num,shaped_int,shaped_num,shaped_none,shaped_ru,flat_str,flat_int,flat_none,List.all_cons,List.all_nil,Bool.and_true,decide_eq_true_eq,decide_eq_false_iff_not,Bool.not_eq_true',Bool.not_eq_false',Decidable.not_not,↓reduceIte,Bool.false_eq_true,Int.reduceLT,eqv_strs,pick_0,pick_01,pick_10,pick_012,pick_021,pick_102,pick_120,pick_201,pick_210]
  refine ⟨⟨_, rfl⟩, mulX 202 401 (bi _).2 (bd _).2 (by decide), shlX 401 (bd _).2 (by omega) (by omega), _, _, rfl, ?_, (gd _).1, (gd _).2.mono (by decide), ?_⟩
  · have := Int.mul_nonneg (bi true).1 (Int.le_of_lt (hT.ok (decide (lastI r far.toNat true % 2 = 1))).d0)
    have := (hT.ok (decide (lastI r far.toNat true % 2 = 1))).n0
    omega
  exact ⟨by decide, h⟩
section
variable {P : Program} {w : World} {K : Fg} {mg : Str → Option Value} {base : Heap}
theorem d_combined (T : Tx w K mg) {cdv : Value} {A : Around} {outer : List Env} {s : Shared} {H : Hp} {E : XK} (hr : Room 2 (A.deeper (envOfC "combined" (defScope st_combined) s.heap.objs.size T.f_combined cdv))) (hgd : (A.deeper (envOfC "combined" (defScope st_combined) s.heap.objs.size T.f_combined cdv)).guards = some []) :
    PSs (cxOf CX0 P w K mg base N_combined "combined" (defScope st_combined) T.f_combined cdv A outer s H E).nox (defBody st_combined) (upS K W0 b_combined) :=
  (ss_cons (s_setL (i := 3) sc_combined.nd rfl (.inl rfl) (e_lstL a_nil))
    (ss_cons (s_for PassesOwn.never rfl (i_items (e_tup (a_cons e_int (a_cons e_int a_nil)))) (g_name (pg_name (i := 4) sc_combined.nd rfl (.inl rfl))) (ss_cons (s_set (i := 5) sc_combined.nd rfl (.inl rfl) (e_call (ok_last_down T) (hr.mono (by decide)) hgd (by rfl) T.g_last_down T.F_last_down.kp T.b_last_down pass0 (a_cons (e_var 1 (pv 1)) (a_cons (e_var 2 (pv 2)) (a_cons (e_var 4 (pv 4)) a_nil)))))
    (ss_cons (s_asg (e_ix (e_var 0 (pv 0)) (e_mod (e_var 5 (pv 5)) e_int)) (g_tup rfl (gs_cons (g_tup rfl (gs_cons (g_name (pg_name (i := 6) sc_combined.nd rfl (.inl rfl))) (gs_cons (g_name (pg_name (i := 7) sc_combined.nd rfl (.inl rfl))) gs_nil))) (gs_cons (g_name (pg_name (i := 8) sc_combined.nd rfl (.inl rfl))) gs_nil))))
    (ss_one (s_app (name := "x") (pv 3) (e_tup (a_cons (e_call (ok_lowest T) (hr.mono (by decide)) hgd (by rfl) T.g_lowest T.F_lowest.kp T.b_lowest pass0 (a_cons (e_add (e_mul (e_var 5 (pv 5)) (e_var 7 (pv 7))) (e_var 6 (pv 6))) (a_cons (e_shl (e_var 7 (pv 7)) (e_var 2 (pv 2))) a_nil))) (a_cons (e_var 8 (pv 8)) a_nil))) (fun h => pe_bm PySem.F.plainAttrs_list PySem.F.slot_list_append PySem.F.type_list_append mt_append (pv 3) h))))))
    (ss_one (s_ret (e_tuple (by rfl) T.n_tuple (a_cons (e_var 3 (pv 3)) a_nil))))))
theorem ok_combined (T : Tx w K mg) : Fn P w K mg base CX0 3 T.f_combined T.fd_combined ["pair", "rule", "far"] (lift K 3 fs_combined) := fn_data T.F_combined sc_combined b_combined (fun _ _ _ _ _ _ hr hgd => d_combined T hr hgd) p_combined
end
def b_thresholds : DS :=
  (dSeq (dAsg (dCall 1 fs_trimmed (dCons (dVar 0) dNil)) (dN 1))
  (dSeq (dAsg (dIx (dVar 1) (dC (.int 0))) (dT 2 (dTc (dN 2) (dTc (dN 3) dTn))))
  (dSeq (dAsg (dBy tab_BY_RULE (dVar 3)) (dN 4))
  (dSeq (dFor (dItems (dSl (dVar 1) (oSo (dC (.int 1))) oNo)) (dT 2 (dTc (dN 5) (dTc (dN 3) dTn)))
    (dSeq (dAsg (dCall 3 fs_combined (dCons (dVar 4) (dCons (dVar 3) (dCons (dBin oSub (dVar 2) (dVar 5)) dNil)))) (dN 4))
  (dAsg (dVar 5) (dN 2))))
  (dRet (dIf (dTest (dBin oGt (dVar 2) (dC (.int 1)))) (dVar 4) (dTup (dCons (dC .none) (dCons (dIx (dVar 4) (dC (.int 1))) dNil)))))))))
def fs_thresholds : FSp := fun rs fu post => ∃ c : List (Int × Ru), rs = [.val (chD c)] ∧ Chn1 c ∧ post (.val (Z.prD (chT c).1 (chT c).2)) fu
def thB : DS := (dSeq (dAsg (dCall 3 fs_combined (dCons (dVar 4) (dCons (dVar 3) (dCons (dBin oSub (dVar 2) (dVar 5)) dNil)))) (dN 4))
  (dAsg (dVar 5) (dN 2)))
theorem p_thB {D : DEnds} {x y : Option Sv} {fu : Option Nat} : ∀ {c : List (Int × Ru)} {w : Int} {T : Bool → Th} {m : Nat} {u v : Option Sv}, Fall w c → 1 ≤ w → ThB m T → (m : Int) + w ≤ 101 →
    (∀ (u v : Option Sv), D.nx ⟨[x, y, some (.val (.int (thF w T c).1)), u, some (.val (prF (thF w T c).2)), v], fu, fu.isNone⟩) →
    forD (dT 2 (dTc (dN 5) (dTc (dN 3) dTn))) thB (c.map stD) D ⟨[x, y, some (.val (.int w)), u, some (.val (prF T)), v], fu, fu.isNone⟩
  | [], w, T, m, u, v, _, _, _, _, h => h u v
  | s :: c, w, T, m, u, v, hf, hw, hT, hm, h => by
    obtain ⟨f1, f2, f3⟩ := hf
    have e : ((w - s.1).toNat : Int) = w - s.1 := by omega
    have ih := p_thB (D := D) (x := x) (y := y) (fu := fu) (c := c) (w := s.1) (T := combI T s.2 (w - s.1).toNat) (m := m + (w - s.1).toNat) (u := some (.val (.str s.2.s))) (v := some (.val (.int s.1))) f3 f1 (comb_B hT (by omega)) (by omega) h
    show dT 2 _ (.val (.tuple [.int s.1, .str s.2.s])) _ _
    simp only [↓dSeq,↓dAsg,↓dSetL,↓dNext,↓dIfS,↓dRet,↓dRetL,↓dDrop,↓dNever,↓dAug,↓dPar,↓dParL,↓dApp,↓dVar,↓dC,↓dBin,↓fI,↓fI0,↓fAdd,↓fEq,↓fNe,↓fIn,↓dTest,↓dAndT,↓dOrT,↓dNotT,↓dAndV,↓dOrV,↓dNotV,↓dIf,↓dIsN,↓dChain,↓dNil,↓dCons,↓dTup,↓dLst,↓dFz,↓valsD,↓dIx,↓dCall,↓dCallL,↓hasSrc,↓rrv,↓dN,↓dT,↓dTn,↓dTc,↓rsv,↓Gs.set,↓dFor,↓dItems,↓dRange1,↓dLc,↓dCB,↓cLen,↓cAll,↓cTuple,↓cInt1,↓cInt2,↓dIsi,↓dSetS,↓oSub,↓oAddI,↓oMul,↓oDiv,↓oMod,↓oShl,↓oPow,↓oLt,↓oLe,↓oGt,↓oGe,↓oAbs,↓oMin,↓cMinL,↓cSortedD,↓dSl,↓oNo,↓oSo,↓dBy,↓dD0,↓cLZ,↓dEnum,↓fMulT,↓cReprX,↓dRaise,↓dRaise0,↓dStop,↓dDropX,↓dAsgX,↓dTup2X,↓dCallX,↓dXval,↓dTry,↓dHand,↓dAs,↓gAs,↓Gs.unset,↓rtN,↓dLam,↓dAct,↓lamF,↓gLam,↓plainO,↓Z.isNon,↓dIfT,thB,fs_combined,ent,svOf,List.map_cons,List.map_nil,List.cons_append,List.nil_append,List.append_nil,List.replicate,List.length_cons,List.length_nil,List.getElem?_cons_zero,List.getElem?_cons_succ,List.getElem?_nil,List.set_cons_zero,List.set_cons_succ,Option.map_some,Option.map_none,Option.isNone_some,Option.isNone_none,forall_const,true_implies,false_implies,and_true,true_and,Bool.true_eq_false,Bool.false_eq_true,reduceCtorEq,noOwn,wipeS,hide,fuN_self,lcD,dYes,Nat.zero_add,Nat.reduceAdd,Nat.reduceLeDiff,Nat.reduceSub,atI_0,atI_1,atI_2,atI_3,atI_4,atI_5,Int.one_mul,eqv_ii,eqv_ss,eqv_num,shaped_int,shaped_num,shaped_none,shaped_ru,flat_str,flat_int,flat_none,List.all_cons,List.all_nil,Bool.and_true,decide_eq_true_eq,decide_eq_false_iff_not,Bool.not_eq_true',Bool.not_eq_false',Decidable.not_not,↓reduceIte,Bool.false_eq_true,Int.reduceLT,eqv_strs,pick_0,pick_01,pick_10,pick_012,pick_021,pick_102,pick_120,pick_201,pick_210]
    exact ⟨T, m, s.2, w - s.1, rfl, hT, by omega, by omega, by omega, ih⟩
theorem sIx_one {n : Nat} (h : 1 ≤ n) : HT.sIx n 0 (some 1) = 1 := by
  show (if (1 : Int) < 0 then ((1 : Int) + (n : Int)).toNat else min (1 : Int).toNat n) = 1
  rw [if_neg (by decide)]
  simp
  omega
theorem cut_tlT {ds : List Da} (h : 1 ≤ ds.length) : Z.cutD ds (some 1) none = ds.drop 1 := by
  unfold Z.cutD
  have e1 : HT.sIx ds.length 0 (some 1) = 1 := by
    show (if (1 : Int) < 0 then ((1 : Int) + (ds.length : Int)).toNat else min (1 : Int).toNat ds.length) = 1
    rw [if_neg (by decide)]
    simp
    omega
  rw [e1, HT.sIx_none, List.take_of_length_le (by rw [List.length_drop]; omega)]
theorem p_thresholds (rs : List Rv) (fu : Option Nat) (post : Rr → Option Nat → Prop) (hl : rs.length = 1) (h : fs_thresholds rs fu post) : b_thresholds ⟨fun g => post (.val .none) g.fu, fun r g => post r g.fu, fun _ => False, fun _ => False⟩ (ent N_thresholds rs fu) := by
  obtain ⟨c, rfl, hc, h⟩ := h
  obtain ⟨hB, w1, w2⟩ := chT_B hc.ne hc.w
  cases c with
  | nil => exact absurd rfl hc.ne
  | cons s c =>
    have hd := hc.w.hd
    simp only [↓dSeq,↓dAsg,↓dSetL,↓dNext,↓dIfS,↓dRet,↓dRetL,↓dDrop,↓dNever,↓dAug,↓dPar,↓dParL,↓dApp,↓dVar,↓dC,↓dBin,↓fI,↓fI0,↓fAdd,↓fEq,↓fNe,↓fIn,↓dTest,↓dAndT,↓dOrT,↓dNotT,↓dAndV,↓dOrV,↓dNotV,↓dIf,↓dIsN,↓dChain,↓dNil,↓dCons,↓dTup,↓dLst,↓dFz,↓valsD,↓dIx,↓dCall,↓dCallL,↓hasSrc,↓rrv,↓dN,↓dT,↓dTn,↓dTc,↓rsv,↓Gs.set,↓dFor,↓dItems,↓dRange1,↓dLc,↓dCB,↓cLen,↓cAll,↓cTuple,↓cInt1,↓cInt2,↓dIsi,↓dSetS,↓oSub,↓oAddI,↓oMul,↓oDiv,↓oMod,↓oShl,↓oPow,↓oLt,↓oLe,↓oGt,↓oGe,↓oAbs,↓oMin,↓cMinL,↓cSortedD,↓dSl,↓oNo,↓oSo,↓dBy,↓dD0,↓cLZ,↓dEnum,↓fMulT,↓cReprX,↓dRaise,↓dRaise0,↓dStop,↓dDropX,↓dAsgX,↓dTup2X,↓dCallX,↓dXval,↓dTry,↓dHand,↓dAs,↓gAs,↓Gs.unset,↓rtN,↓dLam,↓dAct,↓lamF,↓gLam,↓plainO,↓Z.isNon,↓dIfT,b_thresholds,fs_trimmed,ent,svOf,List.map_cons,List.map_nil,List.cons_append,List.nil_append,List.append_nil,List.replicate,List.length_cons,List.length_nil,List.getElem?_cons_zero,List.getElem?_cons_succ,List.getElem?_nil,List.set_cons_zero,List.set_cons_succ,Option.map_some,Option.map_none,Option.isNone_some,Option.isNone_none,forall_const,true_implies,false_implies,and_true,true_and,Bool.true_eq_false,Bool.false_eq_true,reduceCtorEq,noOwn,wipeS,hide,fuN_self,lcD,dYes,Nat.zero_add,Nat.reduceAdd,Nat.reduceLeDiff,Nat.reduceSub,atI_0,atI_1,atI_2,atI_3,atI_4,atI_5,Int.one_mul,eqv_ii,eqv_ss,eqv_num,shaped_int,shaped_num,shaped_none,shaped_ru,flat_str,flat_int,flat_none,List.all_cons,List.all_nil,Bool.and_true,decide_eq_true_eq,decide_eq_false_iff_not,Bool.not_eq_true',Bool.not_eq_false',Decidable.not_not,↓reduceIte,Bool.false_eq_true,Int.reduceLT,eqv_strs,pick_0,pick_01,pick_10,pick_012,pick_021,pick_102,pick_120,pick_201,pick_210]
    refine ⟨_, rfl, hc, ?_⟩
    rw [trimI]
    have e1 : 1 ≤ ((s :: trimI (some s.1) c).map stD).length := by simp
    unfold chD
    rw [List.map_cons]
    have e2 : stD s = .tuple [.int s.1, .str s.2.s] := rfl
    rw [e2]
    simp only [↓dSeq,↓dAsg,↓dSetL,↓dNext,↓dIfS,↓dRet,↓dRetL,↓dDrop,↓dNever,↓dAug,↓dPar,↓dParL,↓dApp,↓dVar,↓dC,↓dBin,↓fI,↓fI0,↓fAdd,↓fEq,↓fNe,↓fIn,↓dTest,↓dAndT,↓dOrT,↓dNotT,↓dAndV,↓dOrV,↓dNotV,↓dIf,↓dIsN,↓dChain,↓dNil,↓dCons,↓dTup,↓dLst,↓dFz,↓valsD,↓dIx,↓dCall,↓dCallL,↓hasSrc,↓rrv,↓dN,↓dT,↓dTn,↓dTc,↓rsv,↓Gs.set,↓dFor,↓dItems,↓dRange1,↓dLc,↓dCB,↓cLen,↓cAll,↓cTuple,↓cInt1,↓cInt2,↓dIsi,↓dSetS,↓oSub,↓oAddI,↓oMul,↓oDiv,↓oMod,↓oShl,↓oPow,↓oLt,↓oLe,↓oGt,↓oGe,↓oAbs,↓oMin,↓cMinL,↓cSortedD,↓dSl,↓oNo,↓oSo,↓dBy,↓dD0,↓cLZ,↓dEnum,↓fMulT,↓cReprX,↓dRaise,↓dRaise0,↓dStop,↓dDropX,↓dAsgX,↓dTup2X,↓dCallX,↓dXval,↓dTry,↓dHand,↓dAs,↓gAs,↓Gs.unset,↓rtN,↓dLam,↓dAct,↓lamF,↓gLam,↓plainO,↓Z.isNon,↓dIfT,ent,svOf,List.map_cons,List.map_nil,List.cons_append,List.nil_append,List.append_nil,List.replicate,List.length_cons,List.length_nil,List.getElem?_cons_zero,List.getElem?_cons_succ,List.getElem?_nil,List.set_cons_zero,List.set_cons_succ,Option.map_some,Option.map_none,Option.isNone_some,Option.isNone_none,forall_const,true_implies,false_implies,and_true,true_and,Bool.true_eq_false,Bool.false_eq_true,reduceCtorEq,noOwn,wipeS,hide,fuN_self,lcD,dYes,Nat.zero_add,Nat.reduceAdd,Nat.reduceLeDiff,Nat.reduceSub,atI_0,atI_1,atI_2,atI_3,atI_4,atI_5,Int.one_mul,eqv_ii,eqv_ss,eqv_num,shaped_int,shaped_num,shaped_none,shaped_ru,flat_str,flat_int,flat_none,List.all_cons,List.all_nil,Bool.and_true,decide_eq_true_eq,decide_eq_false_iff_not,Bool.not_eq_true',Bool.not_eq_false',Decidable.not_not,↓reduceIte,Bool.false_eq_true,Int.reduceLT,eqv_strs,pick_0,pick_01,pick_10,pick_012,pick_021,pick_102,pick_120,pick_201,pick_210]
    refine ⟨s.2, rfl, ?_⟩
    rw [tab_by]
    have ec : Z.cutD (PyData.tuple [PyData.int s.fst, PyData.str s.snd.s] :: List.map stD (trimI (some s.fst) c)) (some 1) none = List.map stD (trimI (some s.fst) c) := by
      rw [cut_tlT (by simp)]
      rfl
    rw [ec]
    refine ⟨fun q => absurd q.1 ?_, ?_⟩
    · rw [sIx_one (by omega)]
      decide
    have e3 : chT (s :: c) = thF s.1 (byR s.2) (trimI (some s.1) c) := rfl
    rw [e3] at h w1
    refine p_thB (m := 1) (trim_fall hc.w.tl) hd.1 (byR_B _) (by omega) fun u v => ?_
    generalize thF s.1 (byR s.2) (trimI (some s.1) c) = z at *
    simp only [↓dSeq,↓dAsg,↓dSetL,↓dNext,↓dIfS,↓dRet,↓dRetL,↓dDrop,↓dNever,↓dAug,↓dPar,↓dParL,↓dApp,↓dVar,↓dC,↓dBin,↓fI,↓fI0,↓fAdd,↓fEq,↓fNe,↓fIn,↓dTest,↓dAndT,↓dOrT,↓dNotT,↓dAndV,↓dOrV,↓dNotV,↓dIf,↓dIsN,↓dChain,↓dNil,↓dCons,↓dTup,↓dLst,↓dFz,↓valsD,↓dIx,↓dCall,↓dCallL,↓hasSrc,↓rrv,↓dN,↓dT,↓dTn,↓dTc,↓rsv,↓Gs.set,↓dFor,↓dItems,↓dRange1,↓dLc,↓dCB,↓cLen,↓cAll,↓cTuple,↓cInt1,↓cInt2,↓dIsi,↓dSetS,↓oSub,↓oAddI,↓oMul,↓oDiv,↓oMod,↓oShl,↓oPow,↓oLt,↓oLe,↓oGt,↓oGe,↓oAbs,↓oMin,↓cMinL,↓cSortedD,↓dSl,↓oNo,↓oSo,↓dBy,↓dD0,↓cLZ,↓dEnum,↓fMulT,↓cReprX,↓dRaise,↓dRaise0,↓dStop,↓dDropX,↓dAsgX,↓dTup2X,↓dCallX,↓dXval,↓dTry,↓dHand,↓dAs,↓gAs,↓Gs.unset,↓rtN,↓dLam,↓dAct,↓lamF,↓gLam,↓plainO,↓Z.isNon,↓dIfT,prF,ent,svOf,List.map_cons,List.map_nil,List.cons_append,List.nil_append,List.append_nil,List.replicate,List.length_cons,List.length_nil,List.getElem?_cons_zero,List.getElem?_cons_succ,List.getElem?_nil,List.set_cons_zero,List.set_cons_succ,Option.map_some,Option.map_none,Option.isNone_some,Option.isNone_none,forall_const,true_implies,false_implies,and_true,true_and,Bool.true_eq_false,Bool.false_eq_true,reduceCtorEq,noOwn,wipeS,hide,fuN_self,lcD,dYes,Nat.zero_add,Nat.reduceAdd,Nat.reduceLeDiff,Nat.reduceSub,atI_0,atI_1,atI_2,atI_3,atI_4,atI_5,Int.one_mul,eqv_ii,eqv_ss,eqv_num,shaped_int,shaped_num,shaped_none,shaped_ru,flat_str,flat_int,flat_none,List.all_cons,List.all_nil,Bool.and_true,decide_eq_true_eq,decide_eq_false_iff_not,Bool.not_eq_true',Bool.not_eq_false',Decidable.not_not,↓reduceIte,Bool.false_eq_true,Int.reduceLT,eqv_strs,pick_0,pick_01,pick_10,pick_012,pick_021,pick_102,pick_120,pick_201,pick_210]
    refine ⟨fun q => ?_, fun q => ?_⟩
    · simp only [Z.prD] at h
      rw [if_neg (by omega)] at h
      exact h
    · simp only [Z.prD] at h
      rw [if_pos (by omega)] at h
      exact h
section
variable {P : Program} {w : World} {K : Fg} {mg : Str → Option Value} {base : Heap}
theorem d_thresholds (T : Tx w K mg) {cdv : Value} {A : Around} {outer : List Env} {s : Shared} {H : Hp} {E : XK} (hr : Room 6 (A.deeper (envOfC "thresholds" (defScope st_thresholds) s.heap.objs.size T.f_thresholds cdv))) (hgd : (A.deeper (envOfC "thresholds" (defScope st_thresholds) s.heap.objs.size T.f_thresholds cdv)).guards = some []) :
    PSs (cxOf CX0 P w K mg base N_thresholds "thresholds" (defScope st_thresholds) T.f_thresholds cdv A outer s H E).nox (defBody st_thresholds) (upS K W0 b_thresholds) :=
  (ss_cons (s_set (i := 1) sc_thresholds.nd rfl (.inl rfl) (e_call (ok_trimmed T) (hr.mono (by decide)) hgd (by rfl) T.g_trimmed T.F_trimmed.kp T.b_trimmed pass0 (a_cons (e_var 0 (pv 0)) a_nil)))
    (ss_cons (s_asg (e_ix (e_var 1 (pv 1)) e_int) (g_tup rfl (gs_cons (g_name (pg_name (i := 2) sc_thresholds.nd rfl (.inl rfl))) (gs_cons (g_name (pg_name (i := 3) sc_thresholds.nd rfl (.inl rfl))) gs_nil))))
    (ss_cons (s_set (i := 4) sc_thresholds.nd rfl (.inl rfl) (e_by (by rfl) T.c_BY_RULE T.k_BY_RULE (e_var 3 (pv 3))))
    (ss_cons (s_for PassesOwn.never rfl (i_items (e_sl (e_var 1 (pv 1)) (o_some e_int) o_none)) (g_tup rfl (gs_cons (g_name (pg_name (i := 5) sc_thresholds.nd rfl (.inl rfl))) (gs_cons (g_name (pg_name (i := 3) sc_thresholds.nd rfl (.inl rfl))) gs_nil))) (ss_cons (s_set (i := 4) sc_thresholds.nd rfl (.inl rfl) (e_call (ok_combined T) (hr.mono (by decide)) hgd (by rfl) T.g_combined T.F_combined.kp T.b_combined pass0 (a_cons (e_var 4 (pv 4)) (a_cons (e_var 3 (pv 3)) (a_cons (e_sub (e_var 2 (pv 2)) (e_var 5 (pv 5))) a_nil)))))
    (ss_one (s_set (i := 2) sc_thresholds.nd rfl (.inl rfl) (e_var 5 (pv 5))))))
    (ss_one (s_ret (e_if (t_gt (e_var 2 (pv 2)) e_int) (e_var 4 (pv 4)) (e_tup (a_cons e_non (a_cons (e_ix (e_var 4 (pv 4)) e_int) a_nil))))))))))
theorem ok_thresholds (T : Tx w K mg) : Fn P w K mg base CX0 7 T.f_thresholds T.fd_thresholds ["chain"] (lift K 1 fs_thresholds) := fn_data T.F_thresholds sc_thresholds b_thresholds (fun _ _ _ _ _ _ hr hgd => d_thresholds T hr hgd) p_thresholds
end
def b_check_chains : DS :=
  (dSeq (dDrop (dCall 1 fs_check_chain (dCons (dVar 0) dNil)))
  (dDrop (dCall 1 fs_check_chain (dCons (dVar 1) dNil))))
def fs_check_chains : FSp := fun rs fu post => ∃ v u, rs = [.val v, .val u] ∧ isChn v = true ∧ isChn u = true ∧ post (.val .none) fu
theorem p_check_chains (rs : List Rv) (fu : Option Nat) (post : Rr → Option Nat → Prop) (hl : rs.length = 2) (h : fs_check_chains rs fu post) : b_check_chains ⟨fun g => post (.val .none) g.fu, fun r g => post r g.fu, fun _ => False, fun _ => False⟩ (ent N_check_chains rs fu) := by
  obtain ⟨v, u, rfl, hv, hu, h⟩ := h
  simp only [↓dSeq,↓dAsg,↓dSetL,↓dNext,↓dIfS,↓dRet,↓dRetL,↓dDrop,↓dNever,↓dAug,↓dPar,↓dParL,↓dApp,↓dVar,↓dC,↓dBin,↓fI,↓fI0,↓fAdd,↓fEq,↓fNe,↓fIn,↓dTest,↓dAndT,↓dOrT,↓dNotT,↓dAndV,↓dOrV,↓dNotV,↓dIf,↓dIsN,↓dChain,↓dNil,↓dCons,↓dTup,↓dLst,↓dFz,↓valsD,↓dIx,↓dCall,↓dCallL,↓hasSrc,↓rrv,↓dN,↓dT,↓dTn,↓dTc,↓rsv,↓Gs.set,↓dFor,↓dItems,↓dRange1,↓dLc,↓dCB,↓cLen,↓cAll,↓cTuple,↓cInt1,↓cInt2,↓dIsi,↓dSetS,↓oSub,↓oAddI,↓oMul,↓oDiv,↓oMod,↓oShl,↓oPow,↓oLt,↓oLe,↓oGt,↓oGe,↓oAbs,↓oMin,↓cMinL,↓cSortedD,↓dSl,↓oNo,↓oSo,↓dBy,↓dD0,↓cLZ,↓dEnum,↓fMulT,↓cReprX,↓dRaise,↓dRaise0,↓dStop,↓dDropX,↓dAsgX,↓dTup2X,↓dCallX,↓dXval,↓dTry,↓dHand,↓dAs,↓gAs,↓Gs.unset,↓rtN,↓dLam,↓dAct,↓lamF,↓gLam,↓plainO,↓Z.isNon,↓dIfT,b_check_chains,fs_check_chain,ent,svOf,List.map_cons,List.map_nil,List.cons_append,List.nil_append,List.append_nil,List.replicate,List.length_cons,List.length_nil,List.getElem?_cons_zero,List.getElem?_cons_succ,List.getElem?_nil,List.set_cons_zero,List.set_cons_succ,Option.map_some,Option.map_none,Option.isNone_some,Option.isNone_none,forall_const,true_implies,false_implies,and_true,true_and,Bool.true_eq_false,Bool.false_eq_true,reduceCtorEq,noOwn,wipeS,hide,fuN_self,lcD,dYes,Nat.zero_add,Nat.reduceAdd,Nat.reduceLeDiff,Nat.reduceSub,atI_0,atI_1,atI_2,atI_3,atI_4,atI_5,Int.one_mul,eqv_ii,eqv_ss,eqv_num,shaped_int,shaped_num,shaped_none,shaped_ru,flat_str,flat_int,flat_none,List.all_cons,List.all_nil,Bool.and_true,decide_eq_true_eq,decide_eq_false_iff_not,Bool.not_eq_true',Bool.not_eq_false',Decidable.not_not,↓reduceIte,Bool.false_eq_true,Int.reduceLT,eqv_strs,pick_0,pick_01,pick_10,pick_012,pick_021,pick_102,pick_120,pick_201,pick_210]
  exact ⟨v, rfl, hv, u, rfl, hu, h⟩
section
variable {P : Program} {w : World} {K : Fg} {mg : Str → Option Value} {base : Heap}
theorem d_check_chains (T : Tx w K mg) {cdv : Value} {A : Around} {outer : List Env} {s : Shared} {H : Hp} {E : XK} (hr : Room 5 (A.deeper (envOfC "check_chains" (defScope st_check_chains) s.heap.objs.size T.f_check_chains cdv))) (hgd : (A.deeper (envOfC "check_chains" (defScope st_check_chains) s.heap.objs.size T.f_check_chains cdv)).guards = some []) :
    PSs (cxOf CX0 P w K mg base N_check_chains "check_chains" (defScope st_check_chains) T.f_check_chains cdv A outer s H E).nox (defBody st_check_chains) (upS K W0 b_check_chains) :=
  (ss_cons (s_expr (e_call (ok_check_chain T) (hr.mono (by decide)) hgd (by rfl) T.g_check_chain T.F_check_chain.kp T.b_check_chain pass0 (a_cons (e_var 0 (pv 0)) a_nil)))
    (ss_one (s_expr (e_call (ok_check_chain T) (hr.mono (by decide)) hgd (by rfl) T.g_check_chain T.F_check_chain.kp T.b_check_chain pass0 (a_cons (e_var 1 (pv 1)) a_nil)))))
theorem ok_check_chains (T : Tx w K mg) : Fn P w K mg base CX0 6 T.f_check_chains T.fd_check_chains ["one", "other"] (lift K 2 fs_check_chains) := fn_data T.F_check_chains sc_check_chains b_check_chains (fun _ _ _ _ _ _ hr hgd => d_check_chains T hr hgd) p_check_chains
end
def b_check_chainsX : DS :=
  (dSeq (dDropX (dCallX 1 (orF fs_check_chain fs_check_chainX) (dCons (dVar 0) dNil)))
  (dDropX (dCallX 1 (orF fs_check_chain fs_check_chainX) (dCons (dVar 1) dNil))))
def fs_check_chainsX : FSp := fun rs fu post => ∃ v u, rs = [.val v, .val u] ∧ ShX v ∧ ShX u ∧ ((isChn v = false ∧ post (.exc "InvalidChain" (some v)) fu) ∨ (isChn v = true ∧ isChn u = false ∧ post (.exc "InvalidChain" (some u)) fu))
theorem p_check_chainsX (rs : List Rv) (fu : Option Nat) (post : Rr → Option Nat → Prop) (hl : rs.length = 2) (h : fs_check_chainsX rs fu post) : b_check_chainsX ⟨fun g => post (.val .none) g.fu, fun r g => post r g.fu, fun _ => False, fun _ => False⟩ (ent N_check_chains rs fu) := by
  obtain ⟨v, u, rfl, hv, hu, h⟩ := h
  simp only [↓dSeq,↓dAsg,↓dSetL,↓dNext,↓dIfS,↓dRet,↓dRetL,↓dDrop,↓dNever,↓dAug,↓dPar,↓dParL,↓dApp,↓dVar,↓dC,↓dBin,↓fI,↓fI0,↓fAdd,↓fEq,↓fNe,↓fIn,↓dTest,↓dAndT,↓dOrT,↓dNotT,↓dAndV,↓dOrV,↓dNotV,↓dIf,↓dIsN,↓dChain,↓dNil,↓dCons,↓dTup,↓dLst,↓dFz,↓valsD,↓dIx,↓dCall,↓dCallL,↓hasSrc,↓rrv,↓dN,↓dT,↓dTn,↓dTc,↓rsv,↓Gs.set,↓dFor,↓dItems,↓dRange1,↓dLc,↓dCB,↓cLen,↓cAll,↓cTuple,↓cInt1,↓cInt2,↓dIsi,↓dSetS,↓oSub,↓oAddI,↓oMul,↓oDiv,↓oMod,↓oShl,↓oPow,↓oLt,↓oLe,↓oGt,↓oGe,↓oAbs,↓oMin,↓cMinL,↓cSortedD,↓dSl,↓oNo,↓oSo,↓dBy,↓dD0,↓cLZ,↓dEnum,↓fMulT,↓cReprX,↓dRaise,↓dRaise0,↓dStop,↓dDropX,↓dAsgX,↓dTup2X,↓dCallX,↓dXval,↓dTry,↓dHand,↓dAs,↓gAs,↓Gs.unset,↓rtN,↓dLam,↓dAct,↓lamF,↓gLam,↓plainO,↓Z.isNon,↓dIfT,b_check_chainsX,ent,svOf,List.map_cons,List.map_nil,List.cons_append,List.nil_append,List.append_nil,List.replicate,List.length_cons,List.length_nil,List.getElem?_cons_zero,List.getElem?_cons_succ,List.getElem?_nil,List.set_cons_zero,List.set_cons_succ,Option.map_some,Option.map_none,Option.isNone_some,Option.isNone_none,forall_const,true_implies,false_implies,and_true,true_and,Bool.true_eq_false,Bool.false_eq_true,reduceCtorEq,noOwn,wipeS,hide,fuN_self,lcD,dYes,Nat.zero_add,Nat.reduceAdd,Nat.reduceLeDiff,Nat.reduceSub,atI_0,atI_1,atI_2,atI_3,atI_4,atI_5,Int.one_mul,eqv_ii,eqv_ss,eqv_num,shaped_int,shaped_num,shaped_none,shaped_ru,flat_str,flat_int,flat_none,List.all_cons,List.all_nil,Bool.and_true,decide_eq_true_eq,decide_eq_false_iff_not,Bool.not_eq_true',Bool.not_eq_false',Decidable.not_not,↓reduceIte,Bool.false_eq_true,Int.reduceLT,eqv_strs,pick_0,pick_01,pick_10,pick_012,pick_021,pick_102,pick_120,pick_201,pick_210]
  rcases h with ⟨h1, h⟩ | ⟨h1, h2, h⟩
  · exact .inr ⟨v, rfl, h1, hv, h⟩
  · exact .inl ⟨v, rfl, h1, .inr ⟨u, rfl, h2, hu, h⟩⟩
section
variable {P : Program} {w : World} {K : Fg} {mg : Str → Option Value} {base : Heap}
theorem d_check_chainsX (T : Tx w K mg) {cdv : Value} {A : Around} {outer : List Env} {s : Shared} {H : Hp} {E : XK} (hr : Room 5 (A.deeper (envOfC "check_chains" (defScope st_check_chains) s.heap.objs.size T.f_check_chains cdv))) (hgd : (A.deeper (envOfC "check_chains" (defScope st_check_chains) s.heap.objs.size T.f_check_chains cdv)).guards = some [])
    (tk : Takes (cxOf (L2.CX P w) P w K mg base N_check_chains "check_chains" (defScope st_check_chains) T.f_check_chains cdv A outer s H E) (fun cls d _ H => E cls d H)) :
    PSs (cxOf (L2.CX P w) P w K mg base N_check_chains "check_chains" (defScope st_check_chains) T.f_check_chains cdv A outer s H E) (defBody st_check_chains) (upS K (fun cls d _ H => E cls d H) b_check_chainsX) :=
  (ss_cons (s_exprX (x_call tk (ok_check_chainO T) (hr.mono (by decide)) hgd (by rfl) T.g_check_chain T.F_check_chain.kp T.b_check_chain (a_cons (e_var 0 (pv 0)) a_nil)))
    (ss_one (s_exprX (x_call tk (ok_check_chainO T) (hr.mono (by decide)) hgd (by rfl) T.g_check_chain T.F_check_chain.kp T.b_check_chain (a_cons (e_var 1 (pv 1)) a_nil)))))
theorem ok_check_chainsX (T : Tx w K mg) : Fn P w K mg base (L2.CX P w) 6 T.f_check_chains T.fd_check_chains ["one", "other"] (liftX K 2 fs_check_chainsX) := fn_dataX T.F_check_chains sc_check_chains b_check_chainsX (fun _ _ _ _ _ _ hr hgd tk => d_check_chainsX T hr hgd tk) p_check_chainsX
theorem ok_check_chainsO (T : Tx w K mg) : Fn P w K mg base (L2.CX P w) 6 T.f_check_chains T.fd_check_chains ["one", "other"] (liftX K 2 (orF fs_check_chains fs_check_chainsX)) := fn_orX (ok_check_chains T) (ok_check_chainsX T)
end
def b_same : DS :=
  (dSeq (dDrop (dCall 2 fs_check_chains (dCons (dVar 0) (dCons (dVar 1) dNil))))
  (dRet (dAndV (dBin fEq (dCall 1 fs_last_width (dCons (dVar 0) dNil)) (dCall 1 fs_last_width (dCons (dVar 1) dNil))) (dBin fEq (dCall 1 fs_thresholds (dCons (dVar 0) dNil)) (dCall 1 fs_thresholds (dCons (dVar 1) dNil))))))
def sameB (c c' : List (Int × Ru)) : Bool := decide ((chT c).1 = (chT c').1) && (Z.prD (chT c).1 (chT c).2).eqv (Z.prD (chT c').1 (chT c').2)
def fs_same : FSp := fun rs fu post => ∃ c c' : List (Int × Ru), rs = [.val (chD c), .val (chD c')] ∧ Chn1 c ∧ Chn1 c' ∧ post (.val (.bool (sameB c c'))) fu
theorem p_same (rs : List Rv) (fu : Option Nat) (post : Rr → Option Nat → Prop) (hl : rs.length = 2) (h : fs_same rs fu post) : b_same ⟨fun g => post (.val .none) g.fu, fun r g => post r g.fu, fun _ => False, fun _ => False⟩ (ent N_same rs fu) := by
  obtain ⟨c, c', rfl, hc, hc', h⟩ := h
  simp only [↓dSeq,↓dAsg,↓dSetL,↓dNext,↓dIfS,↓dRet,↓dRetL,↓dDrop,↓dNever,↓dAug,↓dPar,↓dParL,↓dApp,↓dVar,↓dC,↓dBin,↓fI,↓fI0,↓fAdd,↓fEq,↓fNe,↓fIn,↓dTest,↓dAndT,↓dOrT,↓dNotT,↓dAndV,↓dOrV,↓dNotV,↓dIf,↓dIsN,↓dChain,↓dNil,↓dCons,↓dTup,↓dLst,↓dFz,↓valsD,↓dIx,↓dCall,↓dCallL,↓hasSrc,↓rrv,↓dN,↓dT,↓dTn,↓dTc,↓rsv,↓Gs.set,↓dFor,↓dItems,↓dRange1,↓dLc,↓dCB,↓cLen,↓cAll,↓cTuple,↓cInt1,↓cInt2,↓dIsi,↓dSetS,↓oSub,↓oAddI,↓oMul,↓oDiv,↓oMod,↓oShl,↓oPow,↓oLt,↓oLe,↓oGt,↓oGe,↓oAbs,↓oMin,↓cMinL,↓cSortedD,↓dSl,↓oNo,↓oSo,↓dBy,↓dD0,↓cLZ,↓dEnum,↓fMulT,↓cReprX,↓dRaise,↓dRaise0,↓dStop,↓dDropX,↓dAsgX,↓dTup2X,↓dCallX,↓dXval,↓dTry,↓dHand,↓dAs,↓gAs,↓Gs.unset,↓rtN,↓dLam,↓dAct,↓lamF,↓gLam,↓plainO,↓Z.isNon,↓dIfT,b_same,fs_check_chains,fs_last_width,fs_thresholds,ent,svOf,List.map_cons,List.map_nil,List.cons_append,List.nil_append,List.append_nil,List.replicate,List.length_cons,List.length_nil,List.getElem?_cons_zero,List.getElem?_cons_succ,List.getElem?_nil,List.set_cons_zero,List.set_cons_succ,Option.map_some,Option.map_none,Option.isNone_some,Option.isNone_none,forall_const,true_implies,false_implies,and_true,true_and,Bool.true_eq_false,Bool.false_eq_true,reduceCtorEq,noOwn,wipeS,hide,fuN_self,lcD,dYes,Nat.zero_add,Nat.reduceAdd,Nat.reduceLeDiff,Nat.reduceSub,atI_0,atI_1,atI_2,atI_3,atI_4,atI_5,Int.one_mul,eqv_ii,eqv_ss,eqv_num,shaped_int,shaped_num,shaped_none,shaped_ru,flat_str,flat_int,flat_none,List.all_cons,List.all_nil,Bool.and_true,decide_eq_true_eq,decide_eq_false_iff_not,Bool.not_eq_true',Bool.not_eq_false',Decidable.not_not,↓reduceIte,Bool.false_eq_true,Int.reduceLT,eqv_strs,pick_0,pick_01,pick_10,pick_012,pick_021,pick_102,pick_120,pick_201,pick_210]
  refine ⟨_, _, rfl, hc.is, hc'.is, c, rfl, hc, c', rfl, hc', fun q => ⟨c, rfl, hc, c', rfl, hc', shaped_prD _ _, shaped_prD _ _, ?_⟩, fun q => ?_⟩
  · unfold sameB at h
    rw [decide_eq_true q, Bool.true_and] at h
    exact h
  · unfold sameB at h
    rw [decide_eq_false q, Bool.false_and] at h
    exact h
section
variable {P : Program} {w : World} {K : Fg} {mg : Str → Option Value} {base : Heap}
theorem d_same (T : Tx w K mg) {cdv : Value} {A : Around} {outer : List Env} {s : Shared} {H : Hp} {E : XK} (hr : Room 7 (A.deeper (envOfC "same" (defScope st_same) s.heap.objs.size T.f_same cdv))) (hgd : (A.deeper (envOfC "same" (defScope st_same) s.heap.objs.size T.f_same cdv)).guards = some []) :
    PSs (cxOf CX0 P w K mg base N_same "same" (defScope st_same) T.f_same cdv A outer s H E).nox (defBody st_same) (upS K W0 b_same) :=
  (ss_cons (s_expr (e_call (ok_check_chains T) (hr.mono (by decide)) hgd (by rfl) T.g_check_chains T.F_check_chains.kp T.b_check_chains pass0 (a_cons (e_var 0 (pv 0)) (a_cons (e_var 1 (pv 1)) a_nil))))
    (ss_one (s_ret (e_and (e_eq hr.units (e_call (ok_last_width T) (hr.mono (by decide)) hgd (by rfl) T.g_last_width T.F_last_width.kp T.b_last_width pass0 (a_cons (e_var 0 (pv 0)) a_nil)) (e_call (ok_last_width T) (hr.mono (by decide)) hgd (by rfl) T.g_last_width T.F_last_width.kp T.b_last_width pass0 (a_cons (e_var 1 (pv 1)) a_nil))) (e_one (e_eq hr.units (e_call (ok_thresholds T) (hr.mono (by decide)) hgd (by rfl) T.g_thresholds T.F_thresholds.kp T.b_thresholds pass0 (a_cons (e_var 0 (pv 0)) a_nil)) (e_call (ok_thresholds T) (hr.mono (by decide)) hgd (by rfl) T.g_thresholds T.F_thresholds.kp T.b_thresholds pass0 (a_cons (e_var 1 (pv 1)) a_nil))))))))
theorem ok_same (T : Tx w K mg) : Fn P w K mg base CX0 8 T.f_same T.fd_same ["one", "other"] (lift K 2 fs_same) := fn_data T.F_same sc_same b_same (fun _ _ _ _ _ _ hr hgd => d_same T hr hgd) p_same
end
def b_sameX : DS :=
  (dSeq (dDropX (dCallX 2 (orF fs_check_chains fs_check_chainsX) (dCons (dVar 0) (dCons (dVar 1) dNil))))
  dStop)
def fs_sameX : FSp := fun rs fu post => ∃ v u, rs = [.val v, .val u] ∧ ShX v ∧ ShX u ∧ ((isChn v = false ∧ post (.exc "InvalidChain" (some v)) fu) ∨ (isChn v = true ∧ isChn u = false ∧ post (.exc "InvalidChain" (some u)) fu))
theorem p_sameX (rs : List Rv) (fu : Option Nat) (post : Rr → Option Nat → Prop) (hl : rs.length = 2) (h : fs_sameX rs fu post) : b_sameX ⟨fun g => post (.val .none) g.fu, fun r g => post r g.fu, fun _ => False, fun _ => False⟩ (ent N_same rs fu) := by
  obtain ⟨v, u, rfl, hv, hu, h⟩ := h
  simp only [↓dSeq,↓dAsg,↓dSetL,↓dNext,↓dIfS,↓dRet,↓dRetL,↓dDrop,↓dNever,↓dAug,↓dPar,↓dParL,↓dApp,↓dVar,↓dC,↓dBin,↓fI,↓fI0,↓fAdd,↓fEq,↓fNe,↓fIn,↓dTest,↓dAndT,↓dOrT,↓dNotT,↓dAndV,↓dOrV,↓dNotV,↓dIf,↓dIsN,↓dChain,↓dNil,↓dCons,↓dTup,↓dLst,↓dFz,↓valsD,↓dIx,↓dCall,↓dCallL,↓hasSrc,↓rrv,↓dN,↓dT,↓dTn,↓dTc,↓rsv,↓Gs.set,↓dFor,↓dItems,↓dRange1,↓dLc,↓dCB,↓cLen,↓cAll,↓cTuple,↓cInt1,↓cInt2,↓dIsi,↓dSetS,↓oSub,↓oAddI,↓oMul,↓oDiv,↓oMod,↓oShl,↓oPow,↓oLt,↓oLe,↓oGt,↓oGe,↓oAbs,↓oMin,↓cMinL,↓cSortedD,↓dSl,↓oNo,↓oSo,↓dBy,↓dD0,↓cLZ,↓dEnum,↓fMulT,↓cReprX,↓dRaise,↓dRaise0,↓dStop,↓dDropX,↓dAsgX,↓dTup2X,↓dCallX,↓dXval,↓dTry,↓dHand,↓dAs,↓gAs,↓Gs.unset,↓rtN,↓dLam,↓dAct,↓lamF,↓gLam,↓plainO,↓Z.isNon,↓dIfT,b_sameX,ent,svOf,List.map_cons,List.map_nil,List.cons_append,List.nil_append,List.append_nil,List.replicate,List.length_cons,List.length_nil,List.getElem?_cons_zero,List.getElem?_cons_succ,List.getElem?_nil,List.set_cons_zero,List.set_cons_succ,Option.map_some,Option.map_none,Option.isNone_some,Option.isNone_none,forall_const,true_implies,false_implies,and_true,true_and,Bool.true_eq_false,Bool.false_eq_true,reduceCtorEq,noOwn,wipeS,hide,fuN_self,lcD,dYes,Nat.zero_add,Nat.reduceAdd,Nat.reduceLeDiff,Nat.reduceSub,atI_0,atI_1,atI_2,atI_3,atI_4,atI_5,Int.one_mul,eqv_ii,eqv_ss,eqv_num,shaped_int,shaped_num,shaped_none,shaped_ru,flat_str,flat_int,flat_none,List.all_cons,List.all_nil,Bool.and_true,decide_eq_true_eq,decide_eq_false_iff_not,Bool.not_eq_true',Bool.not_eq_false',Decidable.not_not,↓reduceIte,Bool.false_eq_true,Int.reduceLT,eqv_strs,pick_0,pick_01,pick_10,pick_012,pick_021,pick_102,pick_120,pick_201,pick_210]
  exact .inr ⟨v, u, rfl, hv, hu, h⟩
section
variable {P : Program} {w : World} {K : Fg} {mg : Str → Option Value} {base : Heap}
theorem d_sameX (T : Tx w K mg) {cdv : Value} {A : Around} {outer : List Env} {s : Shared} {H : Hp} {E : XK} (hr : Room 7 (A.deeper (envOfC "same" (defScope st_same) s.heap.objs.size T.f_same cdv))) (hgd : (A.deeper (envOfC "same" (defScope st_same) s.heap.objs.size T.f_same cdv)).guards = some [])
    (tk : Takes (cxOf (L2.CX P w) P w K mg base N_same "same" (defScope st_same) T.f_same cdv A outer s H E) (fun cls d _ H => E cls d H)) :
    PSs (cxOf (L2.CX P w) P w K mg base N_same "same" (defScope st_same) T.f_same cdv A outer s H E) (defBody st_same) (upS K (fun cls d _ H => E cls d H) b_sameX) :=
  (ss_cons (s_exprX (x_call tk (ok_check_chainsO T) (hr.mono (by decide)) hgd (by rfl) T.g_check_chains T.F_check_chains.kp T.b_check_chains (a_cons (e_var 0 (pv 0)) (a_cons (e_var 1 (pv 1)) a_nil))))
    ss_stop)
theorem ok_sameX (T : Tx w K mg) : Fn P w K mg base (L2.CX P w) 8 T.f_same T.fd_same ["one", "other"] (liftX K 2 fs_sameX) := fn_dataX T.F_same sc_same b_sameX (fun _ _ _ _ _ _ hr hgd tk => d_sameX T hr hgd tk) p_sameX
theorem ok_sameO (T : Tx w K mg) : Fn P w K mg base (L2.CX P w) 8 T.f_same T.fd_same ["one", "other"] (liftX K 2 (orF fs_same fs_sameX)) := fn_orX (ok_same T) (ok_sameX T)
end
def b_is_before : DS :=
  (dSeq (dAsg (dVar 0) (dT 2 (dTc (dT 2 (dTc (dN 2) (dTc (dN 3) dTn))) (dTc (dN 4) dTn))))
  (dSeq (dAsg (dVar 1) (dT 2 (dTc (dT 2 (dTc (dN 5) (dTc (dN 6) dTn))) (dTc (dN 7) dTn))))
  (dRet (dOrV (dBin oLt (dBin oMul (dVar 2) (dVar 6)) (dBin oMul (dVar 5) (dVar 3))) (dAndV (dBin fEq (dBin oMul (dVar 2) (dVar 6)) (dBin oMul (dVar 5) (dVar 3))) (dAndV (dBin fEq (dVar 4) (dC (.str "up"))) (dBin fEq (dVar 7) (dC (.str "down")))))))))
/-- a threshold of a chain -/
structure ThG (t : Th) : Prop where
  ok : t.Ok
  g : Int.gcd t.n t.d = 1
  bn : Bn 200 t.n
  bd : Bn 200 t.d
theorem thg {T : Bool → Th} (h : ThB 101 T) (b : Bool) : ThG (T b) := ⟨h.ok b, h.g b, (h.bn b).1.mono (by decide), (h.bn b).2.mono (by decide)⟩
def fs_is_before : FSp := fun rs fu post => ∃ t u : Th, rs = [.val (thD t), .val (thD u)] ∧ ThG t ∧ ThG u ∧ post (.val (.bool (decide (Bef t u)))) fu
theorem p_is_before (rs : List Rv) (fu : Option Nat) (post : Rr → Option Nat → Prop) (hl : rs.length = 2) (h : fs_is_before rs fu post) : b_is_before ⟨fun g => post (.val .none) g.fu, fun r g => post r g.fu, fun _ => False, fun _ => False⟩ (ent N_is_before rs fu) := by
  obtain ⟨t, u, rfl, ht, hu, h⟩ := h
  have x1 : CMulX t.n u.d := mulX 200 200 ht.bn hu.bd (by decide)
  have x2 : CMulX u.n t.d := mulX 200 200 hu.bn ht.bd (by decide)
  simp only [↓dSeq,↓dAsg,↓dSetL,↓dNext,↓dIfS,↓dRet,↓dRetL,↓dDrop,↓dNever,↓dAug,↓dPar,↓dParL,↓dApp,↓dVar,↓dC,↓dBin,↓fI,↓fI0,↓fAdd,↓fEq,↓fNe,↓fIn,↓dTest,↓dAndT,↓dOrT,↓dNotT,↓dAndV,↓dOrV,↓dNotV,↓dIf,↓dIsN,↓dChain,↓dNil,↓dCons,↓dTup,↓dLst,↓dFz,↓valsD,↓dIx,↓dCall,↓dCallL,↓hasSrc,↓rrv,↓dN,↓dT,↓dTn,↓dTc,↓rsv,↓Gs.set,↓dFor,↓dItems,↓dRange1,↓dLc,↓dCB,↓cLen,↓cAll,↓cTuple,↓cInt1,↓cInt2,↓dIsi,↓dSetS,↓oSub,↓oAddI,↓oMul,↓oDiv,↓oMod,↓oShl,↓oPow,↓oLt,↓oLe,↓oGt,↓oGe,↓oAbs,↓oMin,↓cMinL,↓cSortedD,↓dSl,↓oNo,↓oSo,↓dBy,↓dD0,↓cLZ,↓dEnum,↓fMulT,↓cReprX,↓dRaise,↓dRaise0,↓dStop,↓dDropX,↓dAsgX,↓dTup2X,↓dCallX,↓dXval,↓dTry,↓dHand,↓dAs,↓gAs,↓Gs.unset,↓rtN,↓dLam,↓dAct,↓lamF,↓gLam,↓plainO,↓Z.isNon,↓dIfT,b_is_before,thD,ent,svOf,List.map_cons,List.map_nil,List.cons_append,List.nil_append,List.append_nil,List.replicate,List.length_cons,List.length_nil,List.getElem?_cons_zero,List.getElem?_cons_succ,List.getElem?_nil,List.set_cons_zero,List.set_cons_succ,Option.map_some,Option.map_none,Option.isNone_some,Option.isNone_none,forall_const,true_implies,false_implies,and_true,true_and,Bool.true_eq_false,Bool.false_eq_true,reduceCtorEq,noOwn,wipeS,hide,fuN_self,lcD,dYes,Nat.zero_add,Nat.reduceAdd,Nat.reduceLeDiff,Nat.reduceSub,atI_0,atI_1,atI_2,atI_3,atI_4,atI_5,Int.one_mul,eqv_ii,eqv_ss,eqv_num,shaped_int,shaped_num,shaped_none,shaped_ru,flat_str,flat_int,flat_none,List.all_cons,List.all_nil,Bool.and_true,decide_eq_true_eq,decide_eq_false_iff_not,Bool.not_eq_true',Bool.not_eq_false',Decidable.not_not,↓reduceIte,Bool.false_eq_true,Int.reduceLT,eqv_strs,pick_0,pick_01,pick_10,pick_012,pick_021,pick_102,pick_120,pick_201,pick_210]
  refine ⟨x1, x2, fun q => ?_, fun q => ⟨x1, x2, fun e => ⟨shaped_sd _, shaped_up, fun q1 => ⟨shaped_sd _, shaped_dn, ?_⟩, fun q1 => ?_⟩, fun e => ?_⟩⟩
  · rw [decide_eq_true (.inl q)] at h
    exact h
  · have h1 : t.up = true := (dec_up _).mp q1
    by_cases h2 : u.up = false
    · rw [decide_eq_true (.inr ⟨e, h1, h2⟩)] at h
      rw [decide_eq_true ((dec_dn _).mpr h2)]
      exact h
    · rw [decide_eq_false (fun z => by rcases z with z | z; exact q z; exact h2 z.2.2)] at h
      rw [decide_eq_false (fun z => h2 ((dec_dn _).mp z))]
      exact h
  · have h1 : ¬t.up = true := fun z => q1 ((dec_up _).mpr z)
    rw [decide_eq_false (fun z => by rcases z with z | z; exact q z; exact h1 z.2.1)] at h
    exact h
  · rw [decide_eq_false (fun z => by rcases z with z | z; exact q z; exact e z.1)] at h
    exact h
section
variable {P : Program} {w : World} {K : Fg} {mg : Str → Option Value} {base : Heap}
theorem d_is_before (T : Tx w K mg) {cdv : Value} {A : Around} {outer : List Env} {s : Shared} {H : Hp} {E : XK} (hr : Room 0 (A.deeper (envOfC "is_before" (defScope st_is_before) s.heap.objs.size T.f_is_before cdv))) (hgd : (A.deeper (envOfC "is_before" (defScope st_is_before) s.heap.objs.size T.f_is_before cdv)).guards = some []) :
    PSs (cxOf CX0 P w K mg base N_is_before "is_before" (defScope st_is_before) T.f_is_before cdv A outer s H E).nox (defBody st_is_before) (upS K W0 b_is_before) :=
  (ss_cons (s_asg (e_var 0 (pv 0)) (g_tup rfl (gs_cons (g_tup rfl (gs_cons (g_name (pg_name (i := 2) sc_is_before.nd rfl (.inl rfl))) (gs_cons (g_name (pg_name (i := 3) sc_is_before.nd rfl (.inl rfl))) gs_nil))) (gs_cons (g_name (pg_name (i := 4) sc_is_before.nd rfl (.inl rfl))) gs_nil))))
    (ss_cons (s_asg (e_var 1 (pv 1)) (g_tup rfl (gs_cons (g_tup rfl (gs_cons (g_name (pg_name (i := 5) sc_is_before.nd rfl (.inl rfl))) (gs_cons (g_name (pg_name (i := 6) sc_is_before.nd rfl (.inl rfl))) gs_nil))) (gs_cons (g_name (pg_name (i := 7) sc_is_before.nd rfl (.inl rfl))) gs_nil))))
    (ss_one (s_ret (e_or (e_lt (e_mul (e_var 2 (pv 2)) (e_var 6 (pv 6))) (e_mul (e_var 5 (pv 5)) (e_var 3 (pv 3)))) (e_one (e_and (e_eq hr.units (e_mul (e_var 2 (pv 2)) (e_var 6 (pv 6))) (e_mul (e_var 5 (pv 5)) (e_var 3 (pv 3)))) (e_and (e_eq hr.units (e_var 4 (pv 4)) (e_glob (by rfl) T.c_UP T.v_UP T.r_UP)) (e_one (e_eq hr.units (e_var 7 (pv 7)) (e_glob (by rfl) T.c_DOWN T.v_DOWN T.r_DOWN)))))))))))
theorem ok_is_before (T : Tx w K mg) : Fn P w K mg base CX0 1 T.f_is_before T.fd_is_before ["one", "other"] (lift K 2 fs_is_before) := fn_data T.F_is_before sc_is_before b_is_before (fun _ _ _ _ _ _ hr hgd => d_is_before T hr hgd) p_is_before
end
def b_zone : DS :=
  (dSeq (dIfS (dTest (dBin fEq (dVar 0) (dVar 1)))
    (dRet (dC .none))
    dNext)
  (dSeq (dAsg (dIf (dTest (dCall 2 fs_is_before (dCons (dVar 0) (dCons (dVar 1) dNil)))) (dTup (dCons (dVar 0) (dCons (dVar 1) dNil))) (dTup (dCons (dVar 1) (dCons (dVar 0) dNil)))) (dT 2 (dTc (dN 2) (dTc (dN 3) dTn))))
  (dRet (dTup (dCons (dIx (dVar 2) (dC (.int 0))) (dCons (dIx (dVar 3) (dC (.int 0))) (dCons (dBin fEq (dIx (dVar 2) (dC (.int 1))) (dC (.str "up"))) (dCons (dBin fEq (dIx (dVar 3) (dC (.int 1))) (dC (.str "down"))) dNil))))))))
theorem shaped_thD (t : Th) : SeqAt.shaped (thD t) = true := by
  have h := sd_ok t.up
  unfold SeqAt.shaped thD
  simp [PyData.canLay0, PyData.canLayAll0, h, PyData.depth, PyData.depthAll]
theorem up_dec (b : Bool) : decide (sdS b = ("up" : Str)) = b := by cases b <;> decide +kernel
theorem dn_dec (b : Bool) : decide (sdS b = ("down" : Str)) = !b := by cases b <;> decide +kernel
def fs_zone : FSp := fun rs fu post => ∃ t u : Th, rs = [.val (thD t), .val (thD u)] ∧ ThG t ∧ ThG u ∧ post (.val (zoD t u)) fu
theorem p_zone (rs : List Rv) (fu : Option Nat) (post : Rr → Option Nat → Prop) (hl : rs.length = 2) (h : fs_zone rs fu post) : b_zone ⟨fun g => post (.val .none) g.fu, fun r g => post r g.fu, fun _ => False, fun _ => False⟩ (ent N_zone rs fu) := by
  obtain ⟨t, u, rfl, ht, hu, h⟩ := h
  simp only [↓dSeq,↓dAsg,↓dSetL,↓dNext,↓dIfS,↓dRet,↓dRetL,↓dDrop,↓dNever,↓dAug,↓dPar,↓dParL,↓dApp,↓dVar,↓dC,↓dBin,↓fI,↓fI0,↓fAdd,↓fEq,↓fNe,↓fIn,↓dTest,↓dAndT,↓dOrT,↓dNotT,↓dAndV,↓dOrV,↓dNotV,↓dIf,↓dIsN,↓dChain,↓dNil,↓dCons,↓dTup,↓dLst,↓dFz,↓valsD,↓dIx,↓dCall,↓dCallL,↓hasSrc,↓rrv,↓dN,↓dT,↓dTn,↓dTc,↓rsv,↓Gs.set,↓dFor,↓dItems,↓dRange1,↓dLc,↓dCB,↓cLen,↓cAll,↓cTuple,↓cInt1,↓cInt2,↓dIsi,↓dSetS,↓oSub,↓oAddI,↓oMul,↓oDiv,↓oMod,↓oShl,↓oPow,↓oLt,↓oLe,↓oGt,↓oGe,↓oAbs,↓oMin,↓cMinL,↓cSortedD,↓dSl,↓oNo,↓oSo,↓dBy,↓dD0,↓cLZ,↓dEnum,↓fMulT,↓cReprX,↓dRaise,↓dRaise0,↓dStop,↓dDropX,↓dAsgX,↓dTup2X,↓dCallX,↓dXval,↓dTry,↓dHand,↓dAs,↓gAs,↓Gs.unset,↓rtN,↓dLam,↓dAct,↓lamF,↓gLam,↓plainO,↓Z.isNon,↓dIfT,b_zone,ent,svOf,List.map_cons,List.map_nil,List.cons_append,List.nil_append,List.append_nil,List.replicate,List.length_cons,List.length_nil,List.getElem?_cons_zero,List.getElem?_cons_succ,List.getElem?_nil,List.set_cons_zero,List.set_cons_succ,Option.map_some,Option.map_none,Option.isNone_some,Option.isNone_none,forall_const,true_implies,false_implies,and_true,true_and,Bool.true_eq_false,Bool.false_eq_true,reduceCtorEq,noOwn,wipeS,hide,fuN_self,lcD,dYes,Nat.zero_add,Nat.reduceAdd,Nat.reduceLeDiff,Nat.reduceSub,atI_0,atI_1,atI_2,atI_3,atI_4,atI_5,Int.one_mul,eqv_ii,eqv_ss,eqv_num,shaped_int,shaped_num,shaped_none,shaped_ru,flat_str,flat_int,flat_none,List.all_cons,List.all_nil,Bool.and_true,decide_eq_true_eq,decide_eq_false_iff_not,Bool.not_eq_true',Bool.not_eq_false',Decidable.not_not,↓reduceIte,Bool.false_eq_true,Int.reduceLT,eqv_strs,pick_0,pick_01,pick_10,pick_012,pick_021,pick_102,pick_120,pick_201,pick_210]
  refine ⟨shaped_thD t, shaped_thD u, ?_⟩
  rw [eqv_th]
  refine ⟨fun q => ?_, fun q => ?_⟩
  · have e : t = u := of_decide_eq_true q
    unfold zoD at h
    rw [if_pos e] at h
    exact h
  · have ne : ¬t = u := of_decide_eq_false q
    unfold zoD at h
    rw [if_neg ne] at h
    simp only [↓dSeq,↓dAsg,↓dSetL,↓dNext,↓dIfS,↓dRet,↓dRetL,↓dDrop,↓dNever,↓dAug,↓dPar,↓dParL,↓dApp,↓dVar,↓dC,↓dBin,↓fI,↓fI0,↓fAdd,↓fEq,↓fNe,↓fIn,↓dTest,↓dAndT,↓dOrT,↓dNotT,↓dAndV,↓dOrV,↓dNotV,↓dIf,↓dIsN,↓dChain,↓dNil,↓dCons,↓dTup,↓dLst,↓dFz,↓valsD,↓dIx,↓dCall,↓dCallL,↓hasSrc,↓rrv,↓dN,↓dT,↓dTn,↓dTc,↓rsv,↓Gs.set,↓dFor,↓dItems,↓dRange1,↓dLc,↓dCB,↓cLen,↓cAll,↓cTuple,↓cInt1,↓cInt2,↓dIsi,↓dSetS,↓oSub,↓oAddI,↓oMul,↓oDiv,↓oMod,↓oShl,↓oPow,↓oLt,↓oLe,↓oGt,↓oGe,↓oAbs,↓oMin,↓cMinL,↓cSortedD,↓dSl,↓oNo,↓oSo,↓dBy,↓dD0,↓cLZ,↓dEnum,↓fMulT,↓cReprX,↓dRaise,↓dRaise0,↓dStop,↓dDropX,↓dAsgX,↓dTup2X,↓dCallX,↓dXval,↓dTry,↓dHand,↓dAs,↓gAs,↓Gs.unset,↓rtN,↓dLam,↓dAct,↓lamF,↓gLam,↓plainO,↓Z.isNon,↓dIfT,fs_is_before,ent,svOf,List.map_cons,List.map_nil,List.cons_append,List.nil_append,List.append_nil,List.replicate,List.length_cons,List.length_nil,List.getElem?_cons_zero,List.getElem?_cons_succ,List.getElem?_nil,List.set_cons_zero,List.set_cons_succ,Option.map_some,Option.map_none,Option.isNone_some,Option.isNone_none,forall_const,true_implies,false_implies,and_true,true_and,Bool.true_eq_false,Bool.false_eq_true,reduceCtorEq,noOwn,wipeS,hide,fuN_self,lcD,dYes,Nat.zero_add,Nat.reduceAdd,Nat.reduceLeDiff,Nat.reduceSub,atI_0,atI_1,atI_2,atI_3,atI_4,atI_5,Int.one_mul,eqv_ii,eqv_ss,eqv_num,shaped_int,shaped_num,shaped_none,shaped_ru,flat_str,flat_int,flat_none,List.all_cons,List.all_nil,Bool.and_true,decide_eq_true_eq,decide_eq_false_iff_not,Bool.not_eq_true',Bool.not_eq_false',Decidable.not_not,↓reduceIte,Bool.false_eq_true,Int.reduceLT,eqv_strs,pick_0,pick_01,pick_10,pick_012,pick_021,pick_102,pick_120,pick_201,pick_210]
    refine ⟨t, u, rfl, ht, hu, fun b => ?_, fun b => ?_⟩
    · rw [if_pos b] at h
      simp only [↓dSeq,↓dAsg,↓dSetL,↓dNext,↓dIfS,↓dRet,↓dRetL,↓dDrop,↓dNever,↓dAug,↓dPar,↓dParL,↓dApp,↓dVar,↓dC,↓dBin,↓fI,↓fI0,↓fAdd,↓fEq,↓fNe,↓fIn,↓dTest,↓dAndT,↓dOrT,↓dNotT,↓dAndV,↓dOrV,↓dNotV,↓dIf,↓dIsN,↓dChain,↓dNil,↓dCons,↓dTup,↓dLst,↓dFz,↓valsD,↓dIx,↓dCall,↓dCallL,↓hasSrc,↓rrv,↓dN,↓dT,↓dTn,↓dTc,↓rsv,↓Gs.set,↓dFor,↓dItems,↓dRange1,↓dLc,↓dCB,↓cLen,↓cAll,↓cTuple,↓cInt1,↓cInt2,↓dIsi,↓dSetS,↓oSub,↓oAddI,↓oMul,↓oDiv,↓oMod,↓oShl,↓oPow,↓oLt,↓oLe,↓oGt,↓oGe,↓oAbs,↓oMin,↓cMinL,↓cSortedD,↓dSl,↓oNo,↓oSo,↓dBy,↓dD0,↓cLZ,↓dEnum,↓fMulT,↓cReprX,↓dRaise,↓dRaise0,↓dStop,↓dDropX,↓dAsgX,↓dTup2X,↓dCallX,↓dXval,↓dTry,↓dHand,↓dAs,↓gAs,↓Gs.unset,↓rtN,↓dLam,↓dAct,↓lamF,↓gLam,↓plainO,↓Z.isNon,↓dIfT,thD,ent,svOf,List.map_cons,List.map_nil,List.cons_append,List.nil_append,List.append_nil,List.replicate,List.length_cons,List.length_nil,List.getElem?_cons_zero,List.getElem?_cons_succ,List.getElem?_nil,List.set_cons_zero,List.set_cons_succ,Option.map_some,Option.map_none,Option.isNone_some,Option.isNone_none,forall_const,true_implies,false_implies,and_true,true_and,Bool.true_eq_false,Bool.false_eq_true,reduceCtorEq,noOwn,wipeS,hide,fuN_self,lcD,dYes,Nat.zero_add,Nat.reduceAdd,Nat.reduceLeDiff,Nat.reduceSub,atI_0,atI_1,atI_2,atI_3,atI_4,atI_5,Int.one_mul,eqv_ii,eqv_ss,eqv_num,shaped_int,shaped_num,shaped_none,shaped_ru,flat_str,flat_int,flat_none,List.all_cons,List.all_nil,Bool.and_true,decide_eq_true_eq,decide_eq_false_iff_not,Bool.not_eq_true',Bool.not_eq_false',Decidable.not_not,↓reduceIte,Bool.false_eq_true,Int.reduceLT,eqv_strs,pick_0,pick_01,pick_10,pick_012,pick_021,pick_102,pick_120,pick_201,pick_210]
      refine ⟨shaped_sd _, shaped_up, shaped_sd _, shaped_dn, ?_⟩
      rw [up_dec, dn_dec]
      exact h
    · rw [if_neg b] at h
      simp only [↓dSeq,↓dAsg,↓dSetL,↓dNext,↓dIfS,↓dRet,↓dRetL,↓dDrop,↓dNever,↓dAug,↓dPar,↓dParL,↓dApp,↓dVar,↓dC,↓dBin,↓fI,↓fI0,↓fAdd,↓fEq,↓fNe,↓fIn,↓dTest,↓dAndT,↓dOrT,↓dNotT,↓dAndV,↓dOrV,↓dNotV,↓dIf,↓dIsN,↓dChain,↓dNil,↓dCons,↓dTup,↓dLst,↓dFz,↓valsD,↓dIx,↓dCall,↓dCallL,↓hasSrc,↓rrv,↓dN,↓dT,↓dTn,↓dTc,↓rsv,↓Gs.set,↓dFor,↓dItems,↓dRange1,↓dLc,↓dCB,↓cLen,↓cAll,↓cTuple,↓cInt1,↓cInt2,↓dIsi,↓dSetS,↓oSub,↓oAddI,↓oMul,↓oDiv,↓oMod,↓oShl,↓oPow,↓oLt,↓oLe,↓oGt,↓oGe,↓oAbs,↓oMin,↓cMinL,↓cSortedD,↓dSl,↓oNo,↓oSo,↓dBy,↓dD0,↓cLZ,↓dEnum,↓fMulT,↓cReprX,↓dRaise,↓dRaise0,↓dStop,↓dDropX,↓dAsgX,↓dTup2X,↓dCallX,↓dXval,↓dTry,↓dHand,↓dAs,↓gAs,↓Gs.unset,↓rtN,↓dLam,↓dAct,↓lamF,↓gLam,↓plainO,↓Z.isNon,↓dIfT,thD,ent,svOf,List.map_cons,List.map_nil,List.cons_append,List.nil_append,List.append_nil,List.replicate,List.length_cons,List.length_nil,List.getElem?_cons_zero,List.getElem?_cons_succ,List.getElem?_nil,List.set_cons_zero,List.set_cons_succ,Option.map_some,Option.map_none,Option.isNone_some,Option.isNone_none,forall_const,true_implies,false_implies,and_true,true_and,Bool.true_eq_false,Bool.false_eq_true,reduceCtorEq,noOwn,wipeS,hide,fuN_self,lcD,dYes,Nat.zero_add,Nat.reduceAdd,Nat.reduceLeDiff,Nat.reduceSub,atI_0,atI_1,atI_2,atI_3,atI_4,atI_5,Int.one_mul,eqv_ii,eqv_ss,eqv_num,shaped_int,shaped_num,shaped_none,shaped_ru,flat_str,flat_int,flat_none,List.all_cons,List.all_nil,Bool.and_true,decide_eq_true_eq,decide_eq_false_iff_not,Bool.not_eq_true',Bool.not_eq_false',Decidable.not_not,↓reduceIte,Bool.false_eq_true,Int.reduceLT,eqv_strs,pick_0,pick_01,pick_10,pick_012,pick_021,pick_102,pick_120,pick_201,pick_210]
      refine ⟨shaped_sd _, shaped_up, shaped_sd _, shaped_dn, ?_⟩
      rw [up_dec, dn_dec]
      exact h
section
variable {P : Program} {w : World} {K : Fg} {mg : Str → Option Value} {base : Heap}
theorem d_zone (T : Tx w K mg) {cdv : Value} {A : Around} {outer : List Env} {s : Shared} {H : Hp} {E : XK} (hr : Room 1 (A.deeper (envOfC "zone" (defScope st_zone) s.heap.objs.size T.f_zone cdv))) (hgd : (A.deeper (envOfC "zone" (defScope st_zone) s.heap.objs.size T.f_zone cdv)).guards = some []) :
    PSs (cxOf CX0 P w K mg base N_zone "zone" (defScope st_zone) T.f_zone cdv A outer s H E).nox (defBody st_zone) (upS K W0 b_zone) :=
  (ss_cons (s_if (t_eq hr.units (e_var 0 (pv 0)) (e_var 1 (pv 1))) (ss_one (s_ret e_non)) ss_nil)
    (ss_cons (s_asg (e_if (t_val (e_call (ok_is_before T) (hr.mono (by decide)) hgd (by rfl) T.g_is_before T.F_is_before.kp T.b_is_before pass0 (a_cons (e_var 0 (pv 0)) (a_cons (e_var 1 (pv 1)) a_nil)))) (e_tup (a_cons (e_var 0 (pv 0)) (a_cons (e_var 1 (pv 1)) a_nil))) (e_tup (a_cons (e_var 1 (pv 1)) (a_cons (e_var 0 (pv 0)) a_nil)))) (g_tup rfl (gs_cons (g_name (pg_name (i := 2) sc_zone.nd rfl (.inl rfl))) (gs_cons (g_name (pg_name (i := 3) sc_zone.nd rfl (.inl rfl))) gs_nil))))
    (ss_one (s_ret (e_tup (a_cons (e_ix (e_var 2 (pv 2)) e_int) (a_cons (e_ix (e_var 3 (pv 3)) e_int) (a_cons (e_eq hr.units (e_ix (e_var 2 (pv 2)) e_int) (e_glob (by rfl) T.c_UP T.v_UP T.r_UP)) (a_cons (e_eq hr.units (e_ix (e_var 3 (pv 3)) e_int) (e_glob (by rfl) T.c_DOWN T.v_DOWN T.r_DOWN)) a_nil)))))))))
theorem ok_zone (T : Tx w K mg) : Fn P w K mg base CX0 2 T.f_zone T.fd_zone ["one", "other"] (lift K 2 fs_zone) := fn_data T.F_zone sc_zone b_zone (fun _ _ _ _ _ _ hr hgd => d_zone T hr hgd) p_zone
end
def b_zones : DS :=
  (dSeq (dDrop (dCall 2 fs_check_chains (dCons (dVar 0) (dCons (dVar 1) dNil))))
  (dSeq (dIfS (dTest (dBin fNe (dCall 1 fs_last_width (dCons (dVar 0) dNil)) (dCall 1 fs_last_width (dCons (dVar 1) dNil))))
    dNever
    dNext)
  (dSeq (dAsg (dCB cLZ (dCons (dCall 1 fs_thresholds (dCons (dVar 0) dNil)) (dCons (dCall 1 fs_thresholds (dCons (dVar 1) dNil)) dNil))) (dN 2))
  (dRet (dCB cTuple (dCons (dFz (dLc [3, 4] (dItems (dVar 2)) (dT 2 (dTc (dN 3) (dTc (dN 4) dTn))) dYes (dIf (dTest (dIsN false (dVar 3))) (dC .none) (dCall 2 fs_zone (dCons (dVar 3) (dCons (dVar 4) dNil)))))) dNil))))))
def fs_zones : FSp := fun rs fu post => ∃ c c' : List (Int × Ru), rs = [.val (chD c), .val (chD c')] ∧ Chn1 c ∧ Chn1 c' ∧ (chT c).1 = (chT c').1 ∧ post (.val (znD (chT c).1 (chT c).2 (chT c').2)) fu
theorem p_zones (rs : List Rv) (fu : Option Nat) (post : Rr → Option Nat → Prop) (hl : rs.length = 2) (h : fs_zones rs fu post) : b_zones ⟨fun g => post (.val .none) g.fu, fun r g => post r g.fu, fun _ => False, fun _ => False⟩ (ent N_zones rs fu) := by
  obtain ⟨c, c', rfl, hc, hc', hw, h⟩ := h
  obtain ⟨hT, _, _⟩ := chT_B hc.ne hc.w
  obtain ⟨hU, _, _⟩ := chT_B hc'.ne hc'.w
  simp only [↓dSeq,↓dAsg,↓dSetL,↓dNext,↓dIfS,↓dRet,↓dRetL,↓dDrop,↓dNever,↓dAug,↓dPar,↓dParL,↓dApp,↓dVar,↓dC,↓dBin,↓fI,↓fI0,↓fAdd,↓fEq,↓fNe,↓fIn,↓dTest,↓dAndT,↓dOrT,↓dNotT,↓dAndV,↓dOrV,↓dNotV,↓dIf,↓dIsN,↓dChain,↓dNil,↓dCons,↓dTup,↓dLst,↓dFz,↓valsD,↓dIx,↓dCall,↓dCallL,↓hasSrc,↓rrv,↓dN,↓dT,↓dTn,↓dTc,↓rsv,↓Gs.set,↓dFor,↓dItems,↓dRange1,↓dLc,↓dCB,↓cLen,↓cAll,↓cTuple,↓cInt1,↓cInt2,↓dIsi,↓dSetS,↓oSub,↓oAddI,↓oMul,↓oDiv,↓oMod,↓oShl,↓oPow,↓oLt,↓oLe,↓oGt,↓oGe,↓oAbs,↓oMin,↓cMinL,↓cSortedD,↓dSl,↓oNo,↓oSo,↓dBy,↓dD0,↓cLZ,↓dEnum,↓fMulT,↓cReprX,↓dRaise,↓dRaise0,↓dStop,↓dDropX,↓dAsgX,↓dTup2X,↓dCallX,↓dXval,↓dTry,↓dHand,↓dAs,↓gAs,↓Gs.unset,↓rtN,↓dLam,↓dAct,↓lamF,↓gLam,↓plainO,↓Z.isNon,↓dIfT,b_zones,fs_check_chains,fs_last_width,fs_thresholds,ent,svOf,List.map_cons,List.map_nil,List.cons_append,List.nil_append,List.append_nil,List.replicate,List.length_cons,List.length_nil,List.getElem?_cons_zero,List.getElem?_cons_succ,List.getElem?_nil,List.set_cons_zero,List.set_cons_succ,Option.map_some,Option.map_none,Option.isNone_some,Option.isNone_none,forall_const,true_implies,false_implies,and_true,true_and,Bool.true_eq_false,Bool.false_eq_true,reduceCtorEq,noOwn,wipeS,hide,fuN_self,lcD,dYes,Nat.zero_add,Nat.reduceAdd,Nat.reduceLeDiff,Nat.reduceSub,atI_0,atI_1,atI_2,atI_3,atI_4,atI_5,Int.one_mul,eqv_ii,eqv_ss,eqv_num,shaped_int,shaped_num,shaped_none,shaped_ru,flat_str,flat_int,flat_none,List.all_cons,List.all_nil,Bool.and_true,decide_eq_true_eq,decide_eq_false_iff_not,Bool.not_eq_true',Bool.not_eq_false',Decidable.not_not,↓reduceIte,Bool.false_eq_true,Int.reduceLT,eqv_strs,pick_0,pick_01,pick_10,pick_012,pick_021,pick_102,pick_120,pick_201,pick_210]
  refine ⟨_, _, rfl, hc.is, hc'.is, c, rfl, hc, c', rfl, hc', fun z => absurd hw z, fun _ => ⟨c, rfl, hc, c', rfl, hc', ?_⟩⟩
  rw [← hw]
  unfold znD at h
  by_cases q : (chT c).1 = 1
  · rw [if_pos q] at h
    simp only [↓dSeq,↓dAsg,↓dSetL,↓dNext,↓dIfS,↓dRet,↓dRetL,↓dDrop,↓dNever,↓dAug,↓dPar,↓dParL,↓dApp,↓dVar,↓dC,↓dBin,↓fI,↓fI0,↓fAdd,↓fEq,↓fNe,↓fIn,↓dTest,↓dAndT,↓dOrT,↓dNotT,↓dAndV,↓dOrV,↓dNotV,↓dIf,↓dIsN,↓dChain,↓dNil,↓dCons,↓dTup,↓dLst,↓dFz,↓valsD,↓dIx,↓dCall,↓dCallL,↓hasSrc,↓rrv,↓dN,↓dT,↓dTn,↓dTc,↓rsv,↓Gs.set,↓dFor,↓dItems,↓dRange1,↓dLc,↓dCB,↓cLen,↓cAll,↓cTuple,↓cInt1,↓cInt2,↓dIsi,↓dSetS,↓oSub,↓oAddI,↓oMul,↓oDiv,↓oMod,↓oShl,↓oPow,↓oLt,↓oLe,↓oGt,↓oGe,↓oAbs,↓oMin,↓cMinL,↓cSortedD,↓dSl,↓oNo,↓oSo,↓dBy,↓dD0,↓cLZ,↓dEnum,↓fMulT,↓cReprX,↓dRaise,↓dRaise0,↓dStop,↓dDropX,↓dAsgX,↓dTup2X,↓dCallX,↓dXval,↓dTry,↓dHand,↓dAs,↓gAs,↓Gs.unset,↓rtN,↓dLam,↓dAct,↓lamF,↓gLam,↓plainO,↓Z.isNon,↓dIfT,Z.prD,ent,svOf,List.map_cons,List.map_nil,List.cons_append,List.nil_append,List.append_nil,List.replicate,List.length_cons,List.length_nil,List.getElem?_cons_zero,List.getElem?_cons_succ,List.getElem?_nil,List.set_cons_zero,List.set_cons_succ,Option.map_some,Option.map_none,Option.isNone_some,Option.isNone_none,forall_const,true_implies,false_implies,and_true,true_and,Bool.true_eq_false,Bool.false_eq_true,reduceCtorEq,noOwn,wipeS,hide,fuN_self,lcD,dYes,Nat.zero_add,Nat.reduceAdd,Nat.reduceLeDiff,Nat.reduceSub,atI_0,atI_1,atI_2,atI_3,atI_4,atI_5,Int.one_mul,eqv_ii,eqv_ss,eqv_num,shaped_int,shaped_num,shaped_none,shaped_ru,flat_str,flat_int,flat_none,List.all_cons,List.all_nil,Bool.and_true,decide_eq_true_eq,decide_eq_false_iff_not,Bool.not_eq_true',Bool.not_eq_false',Decidable.not_not,↓reduceIte,Bool.false_eq_true,Int.reduceLT,eqv_strs,pick_0,pick_01,pick_10,pick_012,pick_021,pick_102,pick_120,pick_201,pick_210]
    rw [if_pos q, if_pos q]
    simp only [↓dSeq,↓dAsg,↓dSetL,↓dNext,↓dIfS,↓dRet,↓dRetL,↓dDrop,↓dNever,↓dAug,↓dPar,↓dParL,↓dApp,↓dVar,↓dC,↓dBin,↓fI,↓fI0,↓fAdd,↓fEq,↓fNe,↓fIn,↓dTest,↓dAndT,↓dOrT,↓dNotT,↓dAndV,↓dOrV,↓dNotV,↓dIf,↓dIsN,↓dChain,↓dNil,↓dCons,↓dTup,↓dLst,↓dFz,↓valsD,↓dIx,↓dCall,↓dCallL,↓hasSrc,↓rrv,↓dN,↓dT,↓dTn,↓dTc,↓rsv,↓Gs.set,↓dFor,↓dItems,↓dRange1,↓dLc,↓dCB,↓cLen,↓cAll,↓cTuple,↓cInt1,↓cInt2,↓dIsi,↓dSetS,↓oSub,↓oAddI,↓oMul,↓oDiv,↓oMod,↓oShl,↓oPow,↓oLt,↓oLe,↓oGt,↓oGe,↓oAbs,↓oMin,↓cMinL,↓cSortedD,↓dSl,↓oNo,↓oSo,↓dBy,↓dD0,↓cLZ,↓dEnum,↓fMulT,↓cReprX,↓dRaise,↓dRaise0,↓dStop,↓dDropX,↓dAsgX,↓dTup2X,↓dCallX,↓dXval,↓dTry,↓dHand,↓dAs,↓gAs,↓Gs.unset,↓rtN,↓dLam,↓dAct,↓lamF,↓gLam,↓plainO,↓Z.isNon,↓dIfT,Z.isNon,fs_zone,ent,svOf,List.map_cons,List.map_nil,List.cons_append,List.nil_append,List.append_nil,List.replicate,List.length_cons,List.length_nil,List.getElem?_cons_zero,List.getElem?_cons_succ,List.getElem?_nil,List.set_cons_zero,List.set_cons_succ,Option.map_some,Option.map_none,Option.isNone_some,Option.isNone_none,forall_const,true_implies,false_implies,and_true,true_and,Bool.true_eq_false,Bool.false_eq_true,reduceCtorEq,noOwn,wipeS,hide,fuN_self,lcD,dYes,Nat.zero_add,Nat.reduceAdd,Nat.reduceLeDiff,Nat.reduceSub,atI_0,atI_1,atI_2,atI_3,atI_4,atI_5,Int.one_mul,eqv_ii,eqv_ss,eqv_num,shaped_int,shaped_num,shaped_none,shaped_ru,flat_str,flat_int,flat_none,List.all_cons,List.all_nil,Bool.and_true,decide_eq_true_eq,decide_eq_false_iff_not,Bool.not_eq_true',Bool.not_eq_false',Decidable.not_not,↓reduceIte,Bool.false_eq_true,Int.reduceLT,eqv_strs,pick_0,pick_01,pick_10,pick_012,pick_021,pick_102,pick_120,pick_201,pick_210]
    exact ⟨by decide, fun z => absurd z (by show ¬(false = true); decide), fun _ => ⟨_, _, rfl, thg hT true, thg hU true, by decide, h⟩⟩
  · rw [if_neg q] at h
    simp only [↓dSeq,↓dAsg,↓dSetL,↓dNext,↓dIfS,↓dRet,↓dRetL,↓dDrop,↓dNever,↓dAug,↓dPar,↓dParL,↓dApp,↓dVar,↓dC,↓dBin,↓fI,↓fI0,↓fAdd,↓fEq,↓fNe,↓fIn,↓dTest,↓dAndT,↓dOrT,↓dNotT,↓dAndV,↓dOrV,↓dNotV,↓dIf,↓dIsN,↓dChain,↓dNil,↓dCons,↓dTup,↓dLst,↓dFz,↓valsD,↓dIx,↓dCall,↓dCallL,↓hasSrc,↓rrv,↓dN,↓dT,↓dTn,↓dTc,↓rsv,↓Gs.set,↓dFor,↓dItems,↓dRange1,↓dLc,↓dCB,↓cLen,↓cAll,↓cTuple,↓cInt1,↓cInt2,↓dIsi,↓dSetS,↓oSub,↓oAddI,↓oMul,↓oDiv,↓oMod,↓oShl,↓oPow,↓oLt,↓oLe,↓oGt,↓oGe,↓oAbs,↓oMin,↓cMinL,↓cSortedD,↓dSl,↓oNo,↓oSo,↓dBy,↓dD0,↓cLZ,↓dEnum,↓fMulT,↓cReprX,↓dRaise,↓dRaise0,↓dStop,↓dDropX,↓dAsgX,↓dTup2X,↓dCallX,↓dXval,↓dTry,↓dHand,↓dAs,↓gAs,↓Gs.unset,↓rtN,↓dLam,↓dAct,↓lamF,↓gLam,↓plainO,↓Z.isNon,↓dIfT,Z.prD,ent,svOf,List.map_cons,List.map_nil,List.cons_append,List.nil_append,List.append_nil,List.replicate,List.length_cons,List.length_nil,List.getElem?_cons_zero,List.getElem?_cons_succ,List.getElem?_nil,List.set_cons_zero,List.set_cons_succ,Option.map_some,Option.map_none,Option.isNone_some,Option.isNone_none,forall_const,true_implies,false_implies,and_true,true_and,Bool.true_eq_false,Bool.false_eq_true,reduceCtorEq,noOwn,wipeS,hide,fuN_self,lcD,dYes,Nat.zero_add,Nat.reduceAdd,Nat.reduceLeDiff,Nat.reduceSub,atI_0,atI_1,atI_2,atI_3,atI_4,atI_5,Int.one_mul,eqv_ii,eqv_ss,eqv_num,shaped_int,shaped_num,shaped_none,shaped_ru,flat_str,flat_int,flat_none,List.all_cons,List.all_nil,Bool.and_true,decide_eq_true_eq,decide_eq_false_iff_not,Bool.not_eq_true',Bool.not_eq_false',Decidable.not_not,↓reduceIte,Bool.false_eq_true,Int.reduceLT,eqv_strs,pick_0,pick_01,pick_10,pick_012,pick_021,pick_102,pick_120,pick_201,pick_210]
    rw [if_neg q, if_neg q]
    simp only [↓dSeq,↓dAsg,↓dSetL,↓dNext,↓dIfS,↓dRet,↓dRetL,↓dDrop,↓dNever,↓dAug,↓dPar,↓dParL,↓dApp,↓dVar,↓dC,↓dBin,↓fI,↓fI0,↓fAdd,↓fEq,↓fNe,↓fIn,↓dTest,↓dAndT,↓dOrT,↓dNotT,↓dAndV,↓dOrV,↓dNotV,↓dIf,↓dIsN,↓dChain,↓dNil,↓dCons,↓dTup,↓dLst,↓dFz,↓valsD,↓dIx,↓dCall,↓dCallL,↓hasSrc,↓rrv,↓dN,↓dT,↓dTn,↓dTc,↓rsv,↓Gs.set,↓dFor,↓dItems,↓dRange1,↓dLc,↓dCB,↓cLen,↓cAll,↓cTuple,↓cInt1,↓cInt2,↓dIsi,↓dSetS,↓oSub,↓oAddI,↓oMul,↓oDiv,↓oMod,↓oShl,↓oPow,↓oLt,↓oLe,↓oGt,↓oGe,↓oAbs,↓oMin,↓cMinL,↓cSortedD,↓dSl,↓oNo,↓oSo,↓dBy,↓dD0,↓cLZ,↓dEnum,↓fMulT,↓cReprX,↓dRaise,↓dRaise0,↓dStop,↓dDropX,↓dAsgX,↓dTup2X,↓dCallX,↓dXval,↓dTry,↓dHand,↓dAs,↓gAs,↓Gs.unset,↓rtN,↓dLam,↓dAct,↓lamF,↓gLam,↓plainO,↓Z.isNon,↓dIfT,Z.isNon,fs_zone,thD,ent,svOf,List.map_cons,List.map_nil,List.cons_append,List.nil_append,List.append_nil,List.replicate,List.length_cons,List.length_nil,List.getElem?_cons_zero,List.getElem?_cons_succ,List.getElem?_nil,List.set_cons_zero,List.set_cons_succ,Option.map_some,Option.map_none,Option.isNone_some,Option.isNone_none,forall_const,true_implies,false_implies,and_true,true_and,Bool.true_eq_false,Bool.false_eq_true,reduceCtorEq,noOwn,wipeS,hide,fuN_self,lcD,dYes,Nat.zero_add,Nat.reduceAdd,Nat.reduceLeDiff,Nat.reduceSub,atI_0,atI_1,atI_2,atI_3,atI_4,atI_5,Int.one_mul,eqv_ii,eqv_ss,eqv_num,shaped_int,shaped_num,shaped_none,shaped_ru,flat_str,flat_int,flat_none,List.all_cons,List.all_nil,Bool.and_true,decide_eq_true_eq,decide_eq_false_iff_not,Bool.not_eq_true',Bool.not_eq_false',Decidable.not_not,↓reduceIte,Bool.false_eq_true,Int.reduceLT,eqv_strs,pick_0,pick_01,pick_10,pick_012,pick_021,pick_102,pick_120,pick_201,pick_210]
    exact ⟨(chT c).2 false, (chT c').2 false, rfl, thg hT _, thg hU _, by decide, (chT c).2 true, (chT c').2 true, rfl, thg hT _, thg hU _, by decide, h⟩
section
variable {P : Program} {w : World} {K : Fg} {mg : Str → Option Value} {base : Heap}
theorem d_zones (T : Tx w K mg) {cdv : Value} {A : Around} {outer : List Env} {s : Shared} {H : Hp} {E : XK} (hr : Room 7 (A.deeper (envOfC "zones" (defScope st_zones) s.heap.objs.size T.f_zones cdv))) (hgd : (A.deeper (envOfC "zones" (defScope st_zones) s.heap.objs.size T.f_zones cdv)).guards = some []) :
    PSs (cxOf CX0 P w K mg base N_zones "zones" (defScope st_zones) T.f_zones cdv A outer s H E).nox (defBody st_zones) (upS K W0 b_zones) :=
  (ss_cons (s_expr (e_call (ok_check_chains T) (hr.mono (by decide)) hgd (by rfl) T.g_check_chains T.F_check_chains.kp T.b_check_chains pass0 (a_cons (e_var 0 (pv 0)) (a_cons (e_var 1 (pv 1)) a_nil))))
    (ss_cons (s_if (t_ne hr.units (e_call (ok_last_width T) (hr.mono (by decide)) hgd (by rfl) T.g_last_width T.F_last_width.kp T.b_last_width pass0 (a_cons (e_var 0 (pv 0)) a_nil)) (e_call (ok_last_width T) (hr.mono (by decide)) hgd (by rfl) T.g_last_width T.F_last_width.kp T.b_last_width pass0 (a_cons (e_var 1 (pv 1)) a_nil))) (ss_one s_never) ss_nil)
    (ss_cons (s_set (i := 2) sc_zones.nd rfl (.inl rfl) (e_listZ rfl (by rfl) T.n_list (by rfl) T.n_zip (a_cons (e_call (ok_thresholds T) (hr.mono (by decide)) hgd (by rfl) T.g_thresholds T.F_thresholds.kp T.b_thresholds pass0 (a_cons (e_var 0 (pv 0)) a_nil)) (a_cons (e_call (ok_thresholds T) (hr.mono (by decide)) hgd (by rfl) T.g_thresholds T.F_thresholds.kp T.b_thresholds pass0 (a_cons (e_var 1 (pv 1)) a_nil)) a_nil))))
    (ss_one (s_ret (e_tuple (by rfl) T.n_tuple (a_cons (e_fz (e_lc (own := [("here", 3), ("there", 4)]) rfl sc_zones.nd (i_items (e_var 2 (pv 2))) (blkOk_by (own := [("here", 3), ("there", 4)]) (N := N_zones) (sc := defScope st_zones) (by decide +kernel)) (fun _ _ _ _ _ => (gw_tup rfl rfl (gsw_cons (gw_name rfl (pg_name (i := 3) sc_zones.nd rfl (.inl rfl)) (by decide)) (gsw_cons (gw_name rfl (pg_name (i := 4) sc_zones.nd rfl (.inl rfl)) (by decide)) gsw_nil)))) (fun _ _ _ _ _ => ts_yes) (fun _ _ _ _ _ => (e_if (t_isN (e_var 3 (pv 3))) e_non (e_call (ok_zone T) (hr.mono (by decide)) hgd (by rfl) T.g_zone T.F_zone.kp T.b_zone pass0 (a_cons (e_var 3 (pv 3)) (a_cons (e_var 4 (pv 4)) a_nil))))))) a_nil)))))))
theorem ok_zones (T : Tx w K mg) : Fn P w K mg base CX0 8 T.f_zones T.fd_zones ["one", "other"] (lift K 2 fs_zones) := fn_data T.F_zones sc_zones b_zones (fun _ _ _ _ _ _ hr hgd => d_zones T hr hgd) p_zones
end
def b_zonesX : DS :=
  (dSeq (dDropX (dCallX 2 (orF fs_check_chains fs_check_chainsX) (dCons (dVar 0) (dCons (dVar 1) dNil))))
  (dSeq (dIfS (dTest (dBin fNe (dCall 1 fs_last_width (dCons (dVar 0) dNil)) (dCall 1 fs_last_width (dCons (dVar 1) dNil))))
    (dRaise0 "DifferentWidths")
    dNext)
  dStop))
/-- the raise of two values that are not two chains of one last width -/
def zX (v u : Da) (post : Rr → Prop) : Prop := (isChn v = false ∧ post (.exc "InvalidChain" (some v))) ∨ (isChn v = true ∧ isChn u = false ∧ post (.exc "InvalidChain" (some u))) ∨ ∃ c c' : List (Int × Ru), v = chD c ∧ u = chD c' ∧ Chn1 c ∧ Chn1 c' ∧ (chT c).1 ≠ (chT c').1 ∧ post (.exc "DifferentWidths" none)
def fs_zonesX : FSp := fun rs fu post => ∃ v u, rs = [.val v, .val u] ∧ ShX v ∧ ShX u ∧ zX v u fun r => post r fu
theorem p_zonesX (rs : List Rv) (fu : Option Nat) (post : Rr → Option Nat → Prop) (hl : rs.length = 2) (h : fs_zonesX rs fu post) : b_zonesX ⟨fun g => post (.val .none) g.fu, fun r g => post r g.fu, fun _ => False, fun _ => False⟩ (ent N_zones rs fu) := by
  obtain ⟨v, u, rfl, hv, hu, h⟩ := h
  simp only [↓dSeq,↓dAsg,↓dSetL,↓dNext,↓dIfS,↓dRet,↓dRetL,↓dDrop,↓dNever,↓dAug,↓dPar,↓dParL,↓dApp,↓dVar,↓dC,↓dBin,↓fI,↓fI0,↓fAdd,↓fEq,↓fNe,↓fIn,↓dTest,↓dAndT,↓dOrT,↓dNotT,↓dAndV,↓dOrV,↓dNotV,↓dIf,↓dIsN,↓dChain,↓dNil,↓dCons,↓dTup,↓dLst,↓dFz,↓valsD,↓dIx,↓dCall,↓dCallL,↓hasSrc,↓rrv,↓dN,↓dT,↓dTn,↓dTc,↓rsv,↓Gs.set,↓dFor,↓dItems,↓dRange1,↓dLc,↓dCB,↓cLen,↓cAll,↓cTuple,↓cInt1,↓cInt2,↓dIsi,↓dSetS,↓oSub,↓oAddI,↓oMul,↓oDiv,↓oMod,↓oShl,↓oPow,↓oLt,↓oLe,↓oGt,↓oGe,↓oAbs,↓oMin,↓cMinL,↓cSortedD,↓dSl,↓oNo,↓oSo,↓dBy,↓dD0,↓cLZ,↓dEnum,↓fMulT,↓cReprX,↓dRaise,↓dRaise0,↓dStop,↓dDropX,↓dAsgX,↓dTup2X,↓dCallX,↓dXval,↓dTry,↓dHand,↓dAs,↓gAs,↓Gs.unset,↓rtN,↓dLam,↓dAct,↓lamF,↓gLam,↓plainO,↓Z.isNon,↓dIfT,b_zonesX,fs_last_width,ent,svOf,List.map_cons,List.map_nil,List.cons_append,List.nil_append,List.append_nil,List.replicate,List.length_cons,List.length_nil,List.getElem?_cons_zero,List.getElem?_cons_succ,List.getElem?_nil,List.set_cons_zero,List.set_cons_succ,Option.map_some,Option.map_none,Option.isNone_some,Option.isNone_none,forall_const,true_implies,false_implies,and_true,true_and,Bool.true_eq_false,Bool.false_eq_true,reduceCtorEq,noOwn,wipeS,hide,fuN_self,lcD,dYes,Nat.zero_add,Nat.reduceAdd,Nat.reduceLeDiff,Nat.reduceSub,atI_0,atI_1,atI_2,atI_3,atI_4,atI_5,Int.one_mul,eqv_ii,eqv_ss,eqv_num,shaped_int,shaped_num,shaped_none,shaped_ru,flat_str,flat_int,flat_none,List.all_cons,List.all_nil,Bool.and_true,decide_eq_true_eq,decide_eq_false_iff_not,Bool.not_eq_true',Bool.not_eq_false',Decidable.not_not,↓reduceIte,Bool.false_eq_true,Int.reduceLT,eqv_strs,pick_0,pick_01,pick_10,pick_012,pick_021,pick_102,pick_120,pick_201,pick_210]
  rcases h with ⟨h1, h⟩ | ⟨h1, h2, h⟩ | ⟨c, c', rfl, rfl, hc, hc', hw, h⟩
  · exact .inr ⟨v, u, rfl, hv, hu, .inl ⟨h1, h⟩⟩
  · exact .inr ⟨v, u, rfl, hv, hu, .inr ⟨h1, h2, h⟩⟩
  · exact .inl ⟨_, _, rfl, hc.is, hc'.is, c, rfl, hc, c', rfl, hc', fun _ => h, fun z => absurd z hw⟩
section
variable {P : Program} {w : World} {K : Fg} {mg : Str → Option Value} {base : Heap}
theorem d_zonesX (T : Tx w K mg) {cdv : Value} {A : Around} {outer : List Env} {s : Shared} {H : Hp} {E : XK} (hr : Room 7 (A.deeper (envOfC "zones" (defScope st_zones) s.heap.objs.size T.f_zones cdv))) (hgd : (A.deeper (envOfC "zones" (defScope st_zones) s.heap.objs.size T.f_zones cdv)).guards = some [])
    (tk : Takes (cxOf (L2.CX P w) P w K mg base N_zones "zones" (defScope st_zones) T.f_zones cdv A outer s H E) (fun cls d _ H => E cls d H)) :
    PSs (cxOf (L2.CX P w) P w K mg base N_zones "zones" (defScope st_zones) T.f_zones cdv A outer s H E) (defBody st_zones) (upS K (fun cls d _ H => E cls d H) b_zonesX) :=
  (ss_cons (s_exprX (x_call tk (ok_check_chainsO T) (hr.mono (by decide)) hgd (by rfl) T.g_check_chains T.F_check_chains.kp T.b_check_chains (a_cons (e_var 0 (pv 0)) (a_cons (e_var 1 (pv 1)) a_nil))))
    (ss_cons (s_if (t_ne hr.units (e_call (ok_last_width T) (hr.mono (by decide)) hgd (by rfl) T.g_last_width T.F_last_width.kp T.b_last_width pass0 (a_cons (e_var 0 (pv 0)) a_nil)) (e_call (ok_last_width T) (hr.mono (by decide)) hgd (by rfl) T.g_last_width T.F_last_width.kp T.b_last_width pass0 (a_cons (e_var 1 (pv 1)) a_nil))) (ss_one (s_raise0I rfl tk T.xi_DifferentWidths (ok_DifferentWidths_init T) (hr.mono (by decide)) hgd T.b_DifferentWidths_init (by rfl) T.g_DifferentWidths)) ss_nil)
    ss_stop))
theorem ok_zonesX (T : Tx w K mg) : Fn P w K mg base (L2.CX P w) 8 T.f_zones T.fd_zones ["one", "other"] (liftX K 2 fs_zonesX) := fn_dataX T.F_zones sc_zones b_zonesX (fun _ _ _ _ _ _ hr hgd tk => d_zonesX T hr hgd tk) p_zonesX
theorem ok_zonesO (T : Tx w K mg) : Fn P w K mg base (L2.CX P w) 8 T.f_zones T.fd_zones ["one", "other"] (liftX K 2 (orF fs_zones fs_zonesX)) := fn_orX (ok_zones T) (ok_zonesX T)
end
def b_first_part : DS :=
  (dSeq (dAsg (dVar 0) (dT 4 (dTc (dT 2 (dTc (dN 2) (dTc (dN 3) dTn))) (dTc (dT 2 (dTc (dN 4) (dTc (dN 5) dTn))) (dTc (dN 6) (dTc (dN 7) dTn))))))
  (dSeq (dAsg (dBin oDiv (dBin oMul (dVar 2) (dVar 1)) (dVar 3)) (dN 8))
  (dSeq (dIfS (dOrT (dTest (dBin oLt (dBin oMul (dVar 8) (dVar 3)) (dBin oMul (dVar 2) (dVar 1)))) (dAndT (dTest (dBin fEq (dBin oMul (dVar 8) (dVar 3)) (dBin oMul (dVar 2) (dVar 1)))) (dNotT (dTest (dVar 6)))))
    (dAug 8 oAddI (dC (.int 1)))
    dNext)
  (dRet (dIf (dOrT (dTest (dBin oLt (dBin oMul (dVar 8) (dVar 5)) (dBin oMul (dVar 4) (dVar 1)))) (dAndT (dTest (dBin fEq (dBin oMul (dVar 8) (dVar 5)) (dBin oMul (dVar 4) (dVar 1)))) (dTest (dVar 7)))) (dVar 8) (dC .none))))))
def fs_first_part : FSp := fun rs fu post => ∃ (l h : Th) (p : Int), rs = [.val (zoT l h), .val (.int p)] ∧ ThG l ∧ ThG h ∧ 0 < p ∧ Bn 200 p ∧ post (.val (optD (fpI l h p))) fu
theorem p_first_part (rs : List Rv) (fu : Option Nat) (post : Rr → Option Nat → Prop) (hl : rs.length = 2) (h : fs_first_part rs fu post) : b_first_part ⟨fun g => post (.val .none) g.fu, fun r g => post r g.fu, fun _ => False, fun _ => False⟩ (ent N_first_part rs fu) := by
  obtain ⟨l, u, p, rfl, hl, hu, p0, bp, h⟩ := h
  have m1 : CMulX l.n p := mulX 200 200 hl.bn bp (by decide)
  have m2 : CMulX u.n p := mulX 200 200 hu.bn bp (by decide)
  have bnp : Bn 400 (l.n * p) := hl.bn.mul bp
  have np0 : 0 ≤ l.n * p := Int.mul_nonneg hl.ok.n0 (Int.le_of_lt p0)
  have q0 : 0 ≤ l.n * p / l.d := Int.ediv_nonneg np0 (Int.le_of_lt hl.ok.d0)
  have bq : Bn 400 (l.n * p / l.d) := bnp.le q0 (Int.ediv_le_self _ np0)
  have bq1 : Bn 401 (l.n * p / l.d + 1) := bq.add (Bn.small (by decide) (by decide) (by decide))
  have m3 : CMulX (l.n * p / l.d) l.d := mulX 400 200 bq hl.bd (by decide)
  have m4 : CMulX (l.n * p / l.d) u.d := mulX 400 200 bq hu.bd (by decide)
  have m5 : CMulX (l.n * p / l.d + 1) u.d := mulX 401 200 bq1 hu.bd (by decide)
  have le : l.n * p / l.d * l.d ≤ l.n * p := Int.ediv_mul_le _ (Int.ne_of_gt hl.ok.d0)
  unfold fpI fpJ at h
  have n1 := nabv (x := l.n * p / l.d) (y := p) (t := l)
  have n2 := nabv (x := l.n * p / l.d) (y := p) (t := u)
  have n3 := nabv (x := l.n * p / l.d + 1) (y := p) (t := u)
  have tail : ∀ j : Int, CMulX j u.d → post (.val (optD (if Abv j p u then none else some j))) fu →
      CMulX j u.d ∧ CMulX u.n p ∧ (j * u.d < u.n * p → post (.val (.int j)) fu) ∧ (¬j * u.d < u.n * p → CMulX j u.d ∧ CMulX u.n p ∧ (j * u.d = u.n * p → (u.up = false → post (.val (.int j)) fu) ∧ (u.up = true → post (.val .none) fu)) ∧ (¬j * u.d = u.n * p → post (.val .none) fu)) := fun j mj hj => by
    have n := nabv (x := j) (y := p) (t := u)
    have yes : ¬Abv j p u → post (.val (.int j)) fu := fun z => by rw [if_neg z] at hj; exact hj
    have no : Abv j p u → post (.val .none) fu := fun z => by rw [if_pos z] at hj; exact hj
    refine ⟨mj, m2, fun q => yes (n.mpr (.inl q)), fun q => ⟨mj, m2, fun e => ⟨fun z => yes (n.mpr (.inr ⟨e, z⟩)), fun z => no (.inr ⟨e.symm, z⟩)⟩, fun e => no (.inl (by omega))⟩⟩
  unfold zoT
  simp only [↓dSeq,↓dAsg,↓dSetL,↓dNext,↓dIfS,↓dRet,↓dRetL,↓dDrop,↓dNever,↓dAug,↓dPar,↓dParL,↓dApp,↓dVar,↓dC,↓dBin,↓fI,↓fI0,↓fAdd,↓fEq,↓fNe,↓fIn,↓dTest,↓dAndT,↓dOrT,↓dNotT,↓dAndV,↓dOrV,↓dNotV,↓dIf,↓dIsN,↓dChain,↓dNil,↓dCons,↓dTup,↓dLst,↓dFz,↓valsD,↓dIx,↓dCall,↓dCallL,↓hasSrc,↓rrv,↓dN,↓dT,↓dTn,↓dTc,↓rsv,↓Gs.set,↓dFor,↓dItems,↓dRange1,↓dLc,↓dCB,↓cLen,↓cAll,↓cTuple,↓cInt1,↓cInt2,↓dIsi,↓dSetS,↓oSub,↓oAddI,↓oMul,↓oDiv,↓oMod,↓oShl,↓oPow,↓oLt,↓oLe,↓oGt,↓oGe,↓oAbs,↓oMin,↓cMinL,↓cSortedD,↓dSl,↓oNo,↓oSo,↓dBy,↓dD0,↓cLZ,↓dEnum,↓fMulT,↓cReprX,↓dRaise,↓dRaise0,↓dStop,↓dDropX,↓dAsgX,↓dTup2X,↓dCallX,↓dXval,↓dTry,↓dHand,↓dAs,↓gAs,↓Gs.unset,↓rtN,↓dLam,↓dAct,↓lamF,↓gLam,↓plainO,↓Z.isNon,↓dIfT,b_first_part,Z.num,ent,svOf,List.map_cons,List.map_nil,List.cons_append,List.nil_append,List.append_nil,List.replicate,List.length_cons,List.length_nil,List.getElem?_cons_zero,List.getElem?_cons_succ,List.getElem?_nil,List.set_cons_zero,List.set_cons_succ,Option.map_some,Option.map_none,Option.isNone_some,Option.isNone_none,forall_const,true_implies,false_implies,and_true,true_and,Bool.true_eq_false,Bool.false_eq_true,reduceCtorEq,noOwn,wipeS,hide,fuN_self,lcD,dYes,Nat.zero_add,Nat.reduceAdd,Nat.reduceLeDiff,Nat.reduceSub,atI_0,atI_1,atI_2,atI_3,atI_4,atI_5,Int.one_mul,eqv_ii,eqv_ss,eqv_num,shaped_int,shaped_num,shaped_none,shaped_ru,flat_str,flat_int,flat_none,List.all_cons,List.all_nil,Bool.and_true,decide_eq_true_eq,decide_eq_false_iff_not,Bool.not_eq_true',Bool.not_eq_false',Decidable.not_not,↓reduceIte,Bool.false_eq_true,Int.reduceLT,eqv_strs,pick_0,pick_01,pick_10,pick_012,pick_021,pick_102,pick_120,pick_201,pick_210]
  have up1 : ¬Abv (l.n * p / l.d) p l → post (.val (optD (if Abv (l.n * p / l.d + 1) p u then none else some (l.n * p / l.d + 1)))) fu := fun z => by rw [if_neg z] at h; exact h
  have up0 : Abv (l.n * p / l.d) p l → post (.val (optD (if Abv (l.n * p / l.d) p u then none else some (l.n * p / l.d)))) fu := fun z => by rw [if_pos z] at h; exact h
  refine ⟨m1, divX 200 hl.ok.d0 hl.bd (by decide), m3, m1, fun q => tail _ m5 (up1 (n1.mpr (.inl q))), fun q => ⟨m3, m1, fun e => ⟨fun z => tail _ m5 (up1 (n1.mpr (.inr ⟨e, z⟩))), fun z => tail _ m4 (up0 (.inr ⟨e.symm, z⟩))⟩, fun e => absurd (Int.le_antisymm le (by omega)) e⟩⟩
section
variable {P : Program} {w : World} {K : Fg} {mg : Str → Option Value} {base : Heap}
theorem d_first_part (T : Tx w K mg) {cdv : Value} {A : Around} {outer : List Env} {s : Shared} {H : Hp} {E : XK} (hr : Room 0 (A.deeper (envOfC "first_part" (defScope st_first_part) s.heap.objs.size T.f_first_part cdv))) (hgd : (A.deeper (envOfC "first_part" (defScope st_first_part) s.heap.objs.size T.f_first_part cdv)).guards = some []) :
    PSs (cxOf CX0 P w K mg base N_first_part "first_part" (defScope st_first_part) T.f_first_part cdv A outer s H E).nox (defBody st_first_part) (upS K W0 b_first_part) :=
  (ss_cons (s_asg (e_var 0 (pv 0)) (g_tup rfl (gs_cons (g_tup rfl (gs_cons (g_name (pg_name (i := 2) sc_first_part.nd rfl (.inl rfl))) (gs_cons (g_name (pg_name (i := 3) sc_first_part.nd rfl (.inl rfl))) gs_nil))) (gs_cons (g_tup rfl (gs_cons (g_name (pg_name (i := 4) sc_first_part.nd rfl (.inl rfl))) (gs_cons (g_name (pg_name (i := 5) sc_first_part.nd rfl (.inl rfl))) gs_nil))) (gs_cons (g_name (pg_name (i := 6) sc_first_part.nd rfl (.inl rfl))) (gs_cons (g_name (pg_name (i := 7) sc_first_part.nd rfl (.inl rfl))) gs_nil))))))
    (ss_cons (s_set (i := 8) sc_first_part.nd rfl (.inl rfl) (e_div (e_mul (e_var 2 (pv 2)) (e_var 1 (pv 1))) (e_var 3 (pv 3))))
    (ss_cons (s_if (PW.pt (w_or (t_lt (e_mul (e_var 8 (pv 8)) (e_var 3 (pv 3))) (e_mul (e_var 2 (pv 2)) (e_var 1 (pv 1)))) (w_or1 (PW.pt (w_and (t_eq hr.units (e_mul (e_var 8 (pv 8)) (e_var 3 (pv 3))) (e_mul (e_var 2 (pv 2)) (e_var 1 (pv 1)))) (w_and1 (t_not (t_val (e_var 6 (pv 6)))))))))) (ss_one (s_aug (i := 8) sc_first_part.nd rfl (.inl rfl) e_int iop_add ok_I0)) ss_nil)
    (ss_one (s_ret (e_if (PW.pt (w_or (t_lt (e_mul (e_var 8 (pv 8)) (e_var 5 (pv 5))) (e_mul (e_var 4 (pv 4)) (e_var 1 (pv 1)))) (w_or1 (PW.pt (w_and (t_eq hr.units (e_mul (e_var 8 (pv 8)) (e_var 5 (pv 5))) (e_mul (e_var 4 (pv 4)) (e_var 1 (pv 1)))) (w_and1 (t_val (e_var 7 (pv 7))))))))) (e_var 8 (pv 8)) e_non))))))
theorem ok_first_part (T : Tx w K mg) : Fn P w K mg base CX0 1 T.f_first_part T.fd_first_part ["span", "parts"] (lift K 2 fs_first_part) := fn_data T.F_first_part sc_first_part b_first_part (fun _ _ _ _ _ _ hr hgd => d_first_part T hr hgd) p_first_part
end
def b_simplest_difference : DS :=
  (dSeq (dAsg (dCall 2 fs_zones (dCons (dVar 0) (dCons (dVar 1) dNil))) (dN 2))
  (dSeq (dIfS (dTest (dBin fEq (dVar 2) (dTup (dCons (dC .none) (dCons (dC .none) dNil)))))
    (dRet (dC .none))
    dNext)
  (dSeq (dPar 3 4 (dBin oShl (dC (.int 1)) (dBin oSub (dCall 1 fs_last_width (dCons (dVar 0) dNil)) (dC (.int 1)))) (dC (.int 1)))
  (dWhile (dTest (dC (.bool true)))
    (dSeq (dFor (dEnum (dVar 2)) (dT 2 (dTc (dN 5) (dTc (dN 6) dTn)))
    (dSeq (dAsg (dIf (dTest (dIsN true (dVar 6))) (dCall 2 fs_first_part (dCons (dVar 6) (dCons (dVar 4) dNil))) (dC .none)) (dN 7))
  (dIfS (dTest (dIsN true (dVar 7)))
    (dSeq (dAsg (dBin fAdd (dVar 3) (dBin oMod (dBin fAdd (dVar 3) (dVar 5)) (dC (.int 2)))) (dN 8))
  (dRet (dCall 2 fs_lowest (dCons (dBin fAdd (dBin oMul (dVar 8) (dVar 4)) (dVar 7)) (dCons (dVar 4) dNil)))))
    dNext)))
  (dAsg (dBin oMul (dVar 4) (dC (.int 2))) (dN 4)))))))
def fs_simplest_difference : FSp := fun rs fu post => ∃ c c' : List (Int × Ru), rs = [.val (chD c), .val (chD c')] ∧ Chn1 c ∧ Chn1 c' ∧ (chT c).1 = (chT c').1 ∧
  (((chT c).1 ≠ 1 → (chT c).2 false = (chT c').2 false) → (chT c).2 true = (chT c').2 true → post (.val .none) fu) ∧
  ∀ (t : Nat) (b : Bool) (j : Int), SdAt (chT c).1 (chT c).2 (chT c').2 t b j → post (.val (lowD (sdk (chT c).1 b * 2 ^ t + j) (2 ^ t))) fu
def sdI : DS := (dSeq (dAsg (dIf (dTest (dIsN true (dVar 6))) (dCall 2 fs_first_part (dCons (dVar 6) (dCons (dVar 4) dNil))) (dC .none)) (dN 7))
  (dIfS (dTest (dIsN true (dVar 7)))
    (dSeq (dAsg (dBin fAdd (dVar 3) (dBin oMod (dBin fAdd (dVar 3) (dVar 5)) (dC (.int 2)))) (dN 8))
  (dRet (dCall 2 fs_lowest (dCons (dBin fAdd (dBin oMul (dVar 8) (dVar 4)) (dVar 7)) (dCons (dVar 4) dNil)))))
    dNext))
def sdW : DS := (dWhile (dTest (dC (.bool true)))
    (dSeq (dFor (dEnum (dVar 2)) (dT 2 (dTc (dN 5) (dTc (dN 6) dTn))) sdI)
  (dAsg (dBin oMul (dVar 4) (dC (.int 2))) (dN 4))))
def zsp (w : Int) (T U : Bool → Th) (b : Bool) : Da := if w = 1 ∧ b = false then .none else zoD (T b) (U b)
def zf (w : Int) (T U : Bool → Th) (b : Bool) (p : Int) : Option Int := if w = 1 ∧ b = false then none else zfp T U b p
theorem zo_none {t u : Th} : (zoD t u).eqv .none = decide (t = u) := by
  unfold zoD
  by_cases e : t = u
  · rw [if_pos e, decide_eq_true e]
    rfl
  · rw [if_neg e, decide_eq_false e]
    split <;> rfl
theorem zn_none {w : Int} {T U : Bool → Th} : (znD w T U).eqv (.tuple [.none, .none]) = true ↔ (w ≠ 1 → T false = U false) ∧ T true = U true := by
  unfold znD
  simp only [PyData.eqv, PyData.eqvAll, zo_none, Bool.and_true, Bool.and_eq_true, decide_eq_true_eq]
  by_cases e : w = 1
  · rw [if_pos e]
    constructor
    · exact fun h => ⟨fun z => absurd e z, h.2⟩
    · exact fun h => ⟨rfl, h.2⟩
  · rw [if_neg e, zo_none, decide_eq_true_eq]
    constructor
    · exact fun h => ⟨fun _ => h.1, h.2⟩
    · exact fun h => ⟨h.1 e, h.2⟩
theorem p_sdI {D : DEnds} {s0 s1 s2 s7 s8 : Option Sv} {fu : Option Nat} {o : Bool} {w : Int} {T U : Bool → Th} {b : Bool} {t : Nat} (hT : ThB 101 T) (hU : ThB 101 U) (w1 : 1 ≤ w) (w2 : w ≤ 100) (ht : t ≤ 110)
    (h1 : ∀ j, zf w T U b (2 ^ t) = some j → 0 < j → j < 2 ^ t → ∀ g : Gs, g.fu = fu → D.rt (.val (lowD (sdk w b * 2 ^ t + j) (2 ^ t))) g)
    (h2 : zf w T U b (2 ^ t) = none → ∀ s7 s8 : Option Sv, D.nx ⟨[s0, s1, s2, some (.val (.int (2 ^ (w - 1).toNat))), some (.val (.int (2 ^ t))), some (.val (.int (if b then 1 else 0))), some (.val (zsp w T U b)), s7, s8], fu, o⟩) :
    sdI D ⟨[s0, s1, s2, some (.val (.int (2 ^ (w - 1).toNat))), some (.val (.int (2 ^ t))), some (.val (.int (if b then 1 else 0))), some (.val (zsp w T U b)), s7, s8], fu, o⟩ := by
  have P := pow2_pos t
  have bP : Bn 200 ((2 : Int) ^ t) := Bn.pow2 (by omega)
  have S := pow2_pos (w - 1).toNat
  have bS : Bn 110 ((2 : Int) ^ (w - 1).toNat) := Bn.pow2 (by omega)
  by_cases q : w = 1 ∧ b = false
  · have e1 : zsp w T U b = .none := if_pos q
    have e2 : zf w T U b (2 ^ t) = none := if_pos q
    rw [e1] at h2 ⊢
    simp only [↓dSeq,↓dAsg,↓dSetL,↓dNext,↓dIfS,↓dRet,↓dRetL,↓dDrop,↓dNever,↓dAug,↓dPar,↓dParL,↓dApp,↓dVar,↓dC,↓dBin,↓fI,↓fI0,↓fAdd,↓fEq,↓fNe,↓fIn,↓dTest,↓dAndT,↓dOrT,↓dNotT,↓dAndV,↓dOrV,↓dNotV,↓dIf,↓dIsN,↓dChain,↓dNil,↓dCons,↓dTup,↓dLst,↓dFz,↓valsD,↓dIx,↓dCall,↓dCallL,↓hasSrc,↓rrv,↓dN,↓dT,↓dTn,↓dTc,↓rsv,↓Gs.set,↓dFor,↓dItems,↓dRange1,↓dLc,↓dCB,↓cLen,↓cAll,↓cTuple,↓cInt1,↓cInt2,↓dIsi,↓dSetS,↓oSub,↓oAddI,↓oMul,↓oDiv,↓oMod,↓oShl,↓oPow,↓oLt,↓oLe,↓oGt,↓oGe,↓oAbs,↓oMin,↓cMinL,↓cSortedD,↓dSl,↓oNo,↓oSo,↓dBy,↓dD0,↓cLZ,↓dEnum,↓fMulT,↓cReprX,↓dRaise,↓dRaise0,↓dStop,↓dDropX,↓dAsgX,↓dTup2X,↓dCallX,↓dXval,↓dTry,↓dHand,↓dAs,↓gAs,↓Gs.unset,↓rtN,↓dLam,↓dAct,↓lamF,↓gLam,↓plainO,↓Z.isNon,↓dIfT,sdI,Z.isNon,ent,svOf,List.map_cons,List.map_nil,List.cons_append,List.nil_append,List.append_nil,List.replicate,List.length_cons,List.length_nil,List.getElem?_cons_zero,List.getElem?_cons_succ,List.getElem?_nil,List.set_cons_zero,List.set_cons_succ,Option.map_some,Option.map_none,Option.isNone_some,Option.isNone_none,forall_const,true_implies,false_implies,and_true,true_and,Bool.true_eq_false,Bool.false_eq_true,reduceCtorEq,noOwn,wipeS,hide,fuN_self,lcD,dYes,Nat.zero_add,Nat.reduceAdd,Nat.reduceLeDiff,Nat.reduceSub,atI_0,atI_1,atI_2,atI_3,atI_4,atI_5,Int.one_mul,eqv_ii,eqv_ss,eqv_num,shaped_int,shaped_num,shaped_none,shaped_ru,flat_str,flat_int,flat_none,List.all_cons,List.all_nil,Bool.and_true,decide_eq_true_eq,decide_eq_false_iff_not,Bool.not_eq_true',Bool.not_eq_false',Decidable.not_not,↓reduceIte,Bool.false_eq_true,Int.reduceLT,eqv_strs,pick_0,pick_01,pick_10,pick_012,pick_021,pick_102,pick_120,pick_201,pick_210]
    exact h2 e2 _ _
  · have e1 : zsp w T U b = zoD (T b) (U b) := if_neg q
    have e2 : zf w T U b (2 ^ t) = zfp T U b (2 ^ t) := if_neg q
    by_cases ne : T b = U b
    · have e3 : zoD (T b) (U b) = .none := by unfold zoD; rw [if_pos ne]
      have e4 : zfp T U b (2 ^ t) = none := by unfold zfp; rw [if_pos ne]
      rw [e1, e3] at h2 ⊢
      simp only [↓dSeq,↓dAsg,↓dSetL,↓dNext,↓dIfS,↓dRet,↓dRetL,↓dDrop,↓dNever,↓dAug,↓dPar,↓dParL,↓dApp,↓dVar,↓dC,↓dBin,↓fI,↓fI0,↓fAdd,↓fEq,↓fNe,↓fIn,↓dTest,↓dAndT,↓dOrT,↓dNotT,↓dAndV,↓dOrV,↓dNotV,↓dIf,↓dIsN,↓dChain,↓dNil,↓dCons,↓dTup,↓dLst,↓dFz,↓valsD,↓dIx,↓dCall,↓dCallL,↓hasSrc,↓rrv,↓dN,↓dT,↓dTn,↓dTc,↓rsv,↓Gs.set,↓dFor,↓dItems,↓dRange1,↓dLc,↓dCB,↓cLen,↓cAll,↓cTuple,↓cInt1,↓cInt2,↓dIsi,↓dSetS,↓oSub,↓oAddI,↓oMul,↓oDiv,↓oMod,↓oShl,↓oPow,↓oLt,↓oLe,↓oGt,↓oGe,↓oAbs,↓oMin,↓cMinL,↓cSortedD,↓dSl,↓oNo,↓oSo,↓dBy,↓dD0,↓cLZ,↓dEnum,↓fMulT,↓cReprX,↓dRaise,↓dRaise0,↓dStop,↓dDropX,↓dAsgX,↓dTup2X,↓dCallX,↓dXval,↓dTry,↓dHand,↓dAs,↓gAs,↓Gs.unset,↓rtN,↓dLam,↓dAct,↓lamF,↓gLam,↓plainO,↓Z.isNon,↓dIfT,sdI,Z.isNon,ent,svOf,List.map_cons,List.map_nil,List.cons_append,List.nil_append,List.append_nil,List.replicate,List.length_cons,List.length_nil,List.getElem?_cons_zero,List.getElem?_cons_succ,List.getElem?_nil,List.set_cons_zero,List.set_cons_succ,Option.map_some,Option.map_none,Option.isNone_some,Option.isNone_none,forall_const,true_implies,false_implies,and_true,true_and,Bool.true_eq_false,Bool.false_eq_true,reduceCtorEq,noOwn,wipeS,hide,fuN_self,lcD,dYes,Nat.zero_add,Nat.reduceAdd,Nat.reduceLeDiff,Nat.reduceSub,atI_0,atI_1,atI_2,atI_3,atI_4,atI_5,Int.one_mul,eqv_ii,eqv_ss,eqv_num,shaped_int,shaped_num,shaped_none,shaped_ru,flat_str,flat_int,flat_none,List.all_cons,List.all_nil,Bool.and_true,decide_eq_true_eq,decide_eq_false_iff_not,Bool.not_eq_true',Bool.not_eq_false',Decidable.not_not,↓reduceIte,Bool.false_eq_true,Int.reduceLT,eqv_strs,pick_0,pick_01,pick_10,pick_012,pick_021,pick_102,pick_120,pick_201,pick_210]
      exact h2 (e2.trans e4) _ _
    · have e3 := zoD_lohi ne
      have e4 : zfp T U b (2 ^ t) = fpI (lohi (T b) (U b)).1 (lohi (T b) (U b)).2 (2 ^ t) := by unfold zfp; rw [if_neg ne]
      have zs := fun j (h : zfp T U b (2 ^ t) = some j) => zfp_some hT hU P h
      have g1 : ThG (lohi (T b) (U b)).1 ∧ ThG (lohi (T b) (U b)).2 := by
        unfold lohi
        split
        · exact ⟨thg hT b, thg hU b⟩
        · exact ⟨thg hU b, thg hT b⟩
      rw [e1, e3] at h2 ⊢
      rw [e2] at h1 h2
      rw [e4] at h1 h2 zs
      generalize (lohi (T b) (U b)).1 = l at *
      generalize (lohi (T b) (U b)).2 = h at *
      simp only [↓dSeq,↓dAsg,↓dSetL,↓dNext,↓dIfS,↓dRet,↓dRetL,↓dDrop,↓dNever,↓dAug,↓dPar,↓dParL,↓dApp,↓dVar,↓dC,↓dBin,↓fI,↓fI0,↓fAdd,↓fEq,↓fNe,↓fIn,↓dTest,↓dAndT,↓dOrT,↓dNotT,↓dAndV,↓dOrV,↓dNotV,↓dIf,↓dIsN,↓dChain,↓dNil,↓dCons,↓dTup,↓dLst,↓dFz,↓valsD,↓dIx,↓dCall,↓dCallL,↓hasSrc,↓rrv,↓dN,↓dT,↓dTn,↓dTc,↓rsv,↓Gs.set,↓dFor,↓dItems,↓dRange1,↓dLc,↓dCB,↓cLen,↓cAll,↓cTuple,↓cInt1,↓cInt2,↓dIsi,↓dSetS,↓oSub,↓oAddI,↓oMul,↓oDiv,↓oMod,↓oShl,↓oPow,↓oLt,↓oLe,↓oGt,↓oGe,↓oAbs,↓oMin,↓cMinL,↓cSortedD,↓dSl,↓oNo,↓oSo,↓dBy,↓dD0,↓cLZ,↓dEnum,↓fMulT,↓cReprX,↓dRaise,↓dRaise0,↓dStop,↓dDropX,↓dAsgX,↓dTup2X,↓dCallX,↓dXval,↓dTry,↓dHand,↓dAs,↓gAs,↓Gs.unset,↓rtN,↓dLam,↓dAct,↓lamF,↓gLam,↓plainO,↓Z.isNon,↓dIfT,sdI,zoT,fs_first_part,ent,svOf,List.map_cons,List.map_nil,List.cons_append,List.nil_append,List.append_nil,List.replicate,List.length_cons,List.length_nil,List.getElem?_cons_zero,List.getElem?_cons_succ,List.getElem?_nil,List.set_cons_zero,List.set_cons_succ,Option.map_some,Option.map_none,Option.isNone_some,Option.isNone_none,forall_const,true_implies,false_implies,and_true,true_and,Bool.true_eq_false,Bool.false_eq_true,reduceCtorEq,noOwn,wipeS,hide,fuN_self,lcD,dYes,Nat.zero_add,Nat.reduceAdd,Nat.reduceLeDiff,Nat.reduceSub,atI_0,atI_1,atI_2,atI_3,atI_4,atI_5,Int.one_mul,eqv_ii,eqv_ss,eqv_num,shaped_int,shaped_num,shaped_none,shaped_ru,flat_str,flat_int,flat_none,List.all_cons,List.all_nil,Bool.and_true,decide_eq_true_eq,decide_eq_false_iff_not,Bool.not_eq_true',Bool.not_eq_false',Decidable.not_not,↓reduceIte,Bool.false_eq_true,Int.reduceLT,eqv_strs,pick_0,pick_01,pick_10,pick_012,pick_021,pick_102,pick_120,pick_201,pick_210]
      refine ⟨l, h, 2 ^ t, rfl, g1.1, g1.2, P, bP, ?_⟩
      cases hf : fpI l h (2 ^ t) with
      | none =>
        simp only [↓dSeq,↓dAsg,↓dSetL,↓dNext,↓dIfS,↓dRet,↓dRetL,↓dDrop,↓dNever,↓dAug,↓dPar,↓dParL,↓dApp,↓dVar,↓dC,↓dBin,↓fI,↓fI0,↓fAdd,↓fEq,↓fNe,↓fIn,↓dTest,↓dAndT,↓dOrT,↓dNotT,↓dAndV,↓dOrV,↓dNotV,↓dIf,↓dIsN,↓dChain,↓dNil,↓dCons,↓dTup,↓dLst,↓dFz,↓valsD,↓dIx,↓dCall,↓dCallL,↓hasSrc,↓rrv,↓dN,↓dT,↓dTn,↓dTc,↓rsv,↓Gs.set,↓dFor,↓dItems,↓dRange1,↓dLc,↓dCB,↓cLen,↓cAll,↓cTuple,↓cInt1,↓cInt2,↓dIsi,↓dSetS,↓oSub,↓oAddI,↓oMul,↓oDiv,↓oMod,↓oShl,↓oPow,↓oLt,↓oLe,↓oGt,↓oGe,↓oAbs,↓oMin,↓cMinL,↓cSortedD,↓dSl,↓oNo,↓oSo,↓dBy,↓dD0,↓cLZ,↓dEnum,↓fMulT,↓cReprX,↓dRaise,↓dRaise0,↓dStop,↓dDropX,↓dAsgX,↓dTup2X,↓dCallX,↓dXval,↓dTry,↓dHand,↓dAs,↓gAs,↓Gs.unset,↓rtN,↓dLam,↓dAct,↓lamF,↓gLam,↓plainO,↓Z.isNon,↓dIfT,optD,Z.isNon,ent,svOf,List.map_cons,List.map_nil,List.cons_append,List.nil_append,List.append_nil,List.replicate,List.length_cons,List.length_nil,List.getElem?_cons_zero,List.getElem?_cons_succ,List.getElem?_nil,List.set_cons_zero,List.set_cons_succ,Option.map_some,Option.map_none,Option.isNone_some,Option.isNone_none,forall_const,true_implies,false_implies,and_true,true_and,Bool.true_eq_false,Bool.false_eq_true,reduceCtorEq,noOwn,wipeS,hide,fuN_self,lcD,dYes,Nat.zero_add,Nat.reduceAdd,Nat.reduceLeDiff,Nat.reduceSub,atI_0,atI_1,atI_2,atI_3,atI_4,atI_5,Int.one_mul,eqv_ii,eqv_ss,eqv_num,shaped_int,shaped_num,shaped_none,shaped_ru,flat_str,flat_int,flat_none,List.all_cons,List.all_nil,Bool.and_true,decide_eq_true_eq,decide_eq_false_iff_not,Bool.not_eq_true',Bool.not_eq_false',Decidable.not_not,↓reduceIte,Bool.false_eq_true,Int.reduceLT,eqv_strs,pick_0,pick_01,pick_10,pick_012,pick_021,pick_102,pick_120,pick_201,pick_210]
        exact h2 hf _ _
      | some j =>
        obtain ⟨_, j0, j1, _⟩ := zs j hf
        have kb : Bn 112 (2 ^ (w - 1).toNat + (2 ^ (w - 1).toNat + (if b = true then (1 : Int) else 0)) % 2) := (bS.add (Bn.small (by omega) (by omega) (by decide))).mono (by decide)
        have k0 : 0 < 2 ^ (w - 1).toNat + (2 ^ (w - 1).toNat + (if b = true then (1 : Int) else 0)) % 2 := by omega
        have r := h1 j hf j0 j1
        unfold sdk at r
        generalize 2 ^ (w - 1).toNat + (2 ^ (w - 1).toNat + (if b = true then (1 : Int) else 0)) % 2 = k at *
        have kp := Int.mul_pos k0 P
        simp only [↓dSeq,↓dAsg,↓dSetL,↓dNext,↓dIfS,↓dRet,↓dRetL,↓dDrop,↓dNever,↓dAug,↓dPar,↓dParL,↓dApp,↓dVar,↓dC,↓dBin,↓fI,↓fI0,↓fAdd,↓fEq,↓fNe,↓fIn,↓dTest,↓dAndT,↓dOrT,↓dNotT,↓dAndV,↓dOrV,↓dNotV,↓dIf,↓dIsN,↓dChain,↓dNil,↓dCons,↓dTup,↓dLst,↓dFz,↓valsD,↓dIx,↓dCall,↓dCallL,↓hasSrc,↓rrv,↓dN,↓dT,↓dTn,↓dTc,↓rsv,↓Gs.set,↓dFor,↓dItems,↓dRange1,↓dLc,↓dCB,↓cLen,↓cAll,↓cTuple,↓cInt1,↓cInt2,↓dIsi,↓dSetS,↓oSub,↓oAddI,↓oMul,↓oDiv,↓oMod,↓oShl,↓oPow,↓oLt,↓oLe,↓oGt,↓oGe,↓oAbs,↓oMin,↓cMinL,↓cSortedD,↓dSl,↓oNo,↓oSo,↓dBy,↓dD0,↓cLZ,↓dEnum,↓fMulT,↓cReprX,↓dRaise,↓dRaise0,↓dStop,↓dDropX,↓dAsgX,↓dTup2X,↓dCallX,↓dXval,↓dTry,↓dHand,↓dAs,↓gAs,↓Gs.unset,↓rtN,↓dLam,↓dAct,↓lamF,↓gLam,↓plainO,↓Z.isNon,↓dIfT,optD,Z.isNon,fs_lowest,ent,svOf,List.map_cons,List.map_nil,List.cons_append,List.nil_append,List.append_nil,List.replicate,List.length_cons,List.length_nil,List.getElem?_cons_zero,List.getElem?_cons_succ,List.getElem?_nil,List.set_cons_zero,List.set_cons_succ,Option.map_some,Option.map_none,Option.isNone_some,Option.isNone_none,forall_const,true_implies,false_implies,and_true,true_and,Bool.true_eq_false,Bool.false_eq_true,reduceCtorEq,noOwn,wipeS,hide,fuN_self,lcD,dYes,Nat.zero_add,Nat.reduceAdd,Nat.reduceLeDiff,Nat.reduceSub,atI_0,atI_1,atI_2,atI_3,atI_4,atI_5,Int.one_mul,eqv_ii,eqv_ss,eqv_num,shaped_int,shaped_num,shaped_none,shaped_ru,flat_str,flat_int,flat_none,List.all_cons,List.all_nil,Bool.and_true,decide_eq_true_eq,decide_eq_false_iff_not,Bool.not_eq_true',Bool.not_eq_false',Decidable.not_not,↓reduceIte,Bool.false_eq_true,Int.reduceLT,eqv_strs,pick_0,pick_01,pick_10,pick_012,pick_021,pick_102,pick_120,pick_201,pick_210]
        exact ⟨mulX 112 200 kb bP (by decide), _, _, rfl, by omega, P, bP.mono (by decide), r _ rfl⟩
theorem p_sdW {D : DEnds} {s0 s1 s5 s6 s7 s8 : Option Sv} {fu : Option Nat} {o : Bool} {w : Int} {T U : Bool → Th} (hT : ThB 101 T) (hU : ThB 101 U) (dvT : ThDv 100 T) (dvU : ThDv 100 U) (w1 : 1 ≤ w) (w2 : w ≤ 100)
    (hne : ∃ b, (w = 1 → b = true) ∧ T b ≠ U b)
    (h : ∀ (t : Nat) (b : Bool) (j : Int), SdAt w T U t b j → ∀ g : Gs, g.fu = fu → D.rt (.val (lowD (sdk w b * 2 ^ t + j) (2 ^ t))) g) :
    sdW D ⟨[s0, s1, some (.val (znD w T U)), some (.val (.int (2 ^ (w - 1).toNat))), some (.val (.int 1)), s5, s6, s7, s8], fu, o⟩ := by
  refine ⟨fun m g => ∃ (t : Nat) (s5 s6 s7 s8 : Option Sv), m + t = 101 ∧ (∀ t', t' < t → ∀ b', (w = 1 → b' = true) → ∀ i, ¬Dif T U b' i (2 ^ t')) ∧ g = ⟨[s0, s1, some (.val (znD w T U)), some (.val (.int (2 ^ (w - 1).toNat))), some (.val (.int (2 ^ t))), s5, s6, s7, s8], fu, o⟩, ⟨101, 0, _, _, _, _, rfl, fun t' ht => absurd ht (Nat.not_lt_zero _), rfl⟩, fun m g hg => ?_⟩
  obtain ⟨t, s5, s6, s7, s8, hmt, pre, rfl⟩ := hg
  have P := pow2_pos t
  have ez : znD w T U = .tuple [zsp w T U false, zsp w T U true] := by
    unfold znD zsp
    simp
  have i1 := @p_sdI
  generalize sdI = L at *
  rw [ez]
  simp only [↓dSeq,↓dAsg,↓dSetL,↓dNext,↓dIfS,↓dRet,↓dRetL,↓dDrop,↓dNever,↓dAug,↓dPar,↓dParL,↓dApp,↓dVar,↓dC,↓dBin,↓fI,↓fI0,↓fAdd,↓fEq,↓fNe,↓fIn,↓dTest,↓dAndT,↓dOrT,↓dNotT,↓dAndV,↓dOrV,↓dNotV,↓dIf,↓dIsN,↓dChain,↓dNil,↓dCons,↓dTup,↓dLst,↓dFz,↓valsD,↓dIx,↓dCall,↓dCallL,↓hasSrc,↓rrv,↓dN,↓dT,↓dTn,↓dTc,↓rsv,↓Gs.set,↓dFor,↓dItems,↓dRange1,↓dLc,↓dCB,↓cLen,↓cAll,↓cTuple,↓cInt1,↓cInt2,↓dIsi,↓dSetS,↓oSub,↓oAddI,↓oMul,↓oDiv,↓oMod,↓oShl,↓oPow,↓oLt,↓oLe,↓oGt,↓oGe,↓oAbs,↓oMin,↓cMinL,↓cSortedD,↓dSl,↓oNo,↓oSo,↓dBy,↓dD0,↓cLZ,↓dEnum,↓fMulT,↓cReprX,↓dRaise,↓dRaise0,↓dStop,↓dDropX,↓dAsgX,↓dTup2X,↓dCallX,↓dXval,↓dTry,↓dHand,↓dAs,↓gAs,↓Gs.unset,↓rtN,↓dLam,↓dAct,↓lamF,↓gLam,↓plainO,↓Z.isNon,↓dIfT,ent,svOf,List.map_cons,List.map_nil,List.cons_append,List.nil_append,List.append_nil,List.replicate,List.length_cons,List.length_nil,List.getElem?_cons_zero,List.getElem?_cons_succ,List.getElem?_nil,List.set_cons_zero,List.set_cons_succ,Option.map_some,Option.map_none,Option.isNone_some,Option.isNone_none,forall_const,true_implies,false_implies,and_true,true_and,Bool.true_eq_false,Bool.false_eq_true,reduceCtorEq,noOwn,wipeS,hide,fuN_self,lcD,dYes,Nat.zero_add,Nat.reduceAdd,Nat.reduceLeDiff,Nat.reduceSub,atI_0,atI_1,atI_2,atI_3,atI_4,atI_5,Int.one_mul,eqv_ii,eqv_ss,eqv_num,shaped_int,shaped_num,shaped_none,shaped_ru,flat_str,flat_int,flat_none,List.all_cons,List.all_nil,Bool.and_true,decide_eq_true_eq,decide_eq_false_iff_not,Bool.not_eq_true',Bool.not_eq_false',Decidable.not_not,↓reduceIte,Bool.false_eq_true,Int.reduceLT,eqv_strs,pick_0,pick_01,pick_10,pick_012,pick_021,pick_102,pick_120,pick_201,pick_210]
  show Z.dT 2 _ (.val (.tuple [.int 0, zsp w T U false])) _ _
  simp only [↓dSeq,↓dAsg,↓dSetL,↓dNext,↓dIfS,↓dRet,↓dRetL,↓dDrop,↓dNever,↓dAug,↓dPar,↓dParL,↓dApp,↓dVar,↓dC,↓dBin,↓fI,↓fI0,↓fAdd,↓fEq,↓fNe,↓fIn,↓dTest,↓dAndT,↓dOrT,↓dNotT,↓dAndV,↓dOrV,↓dNotV,↓dIf,↓dIsN,↓dChain,↓dNil,↓dCons,↓dTup,↓dLst,↓dFz,↓valsD,↓dIx,↓dCall,↓dCallL,↓hasSrc,↓rrv,↓dN,↓dT,↓dTn,↓dTc,↓rsv,↓Gs.set,↓dFor,↓dItems,↓dRange1,↓dLc,↓dCB,↓cLen,↓cAll,↓cTuple,↓cInt1,↓cInt2,↓dIsi,↓dSetS,↓oSub,↓oAddI,↓oMul,↓oDiv,↓oMod,↓oShl,↓oPow,↓oLt,↓oLe,↓oGt,↓oGe,↓oAbs,↓oMin,↓cMinL,↓cSortedD,↓dSl,↓oNo,↓oSo,↓dBy,↓dD0,↓cLZ,↓dEnum,↓fMulT,↓cReprX,↓dRaise,↓dRaise0,↓dStop,↓dDropX,↓dAsgX,↓dTup2X,↓dCallX,↓dXval,↓dTry,↓dHand,↓dAs,↓gAs,↓Gs.unset,↓rtN,↓dLam,↓dAct,↓lamF,↓gLam,↓plainO,↓Z.isNon,↓dIfT,ent,svOf,List.map_cons,List.map_nil,List.cons_append,List.nil_append,List.append_nil,List.replicate,List.length_cons,List.length_nil,List.getElem?_cons_zero,List.getElem?_cons_succ,List.getElem?_nil,List.set_cons_zero,List.set_cons_succ,Option.map_some,Option.map_none,Option.isNone_some,Option.isNone_none,forall_const,true_implies,false_implies,and_true,true_and,Bool.true_eq_false,Bool.false_eq_true,reduceCtorEq,noOwn,wipeS,hide,fuN_self,lcD,dYes,Nat.zero_add,Nat.reduceAdd,Nat.reduceLeDiff,Nat.reduceSub,atI_0,atI_1,atI_2,atI_3,atI_4,atI_5,Int.one_mul,eqv_ii,eqv_ss,eqv_num,shaped_int,shaped_num,shaped_none,shaped_ru,flat_str,flat_int,flat_none,List.all_cons,List.all_nil,Bool.and_true,decide_eq_true_eq,decide_eq_false_iff_not,Bool.not_eq_true',Bool.not_eq_false',Decidable.not_not,↓reduceIte,Bool.false_eq_true,Int.reduceLT,eqv_strs,pick_0,pick_01,pick_10,pick_012,pick_021,pick_102,pick_120,pick_201,pick_210]
  refine i1 (b := false) (t := t) hT hU w1 w2 (by omega) (fun j hj j0 j1 g hg => ?_) (fun hn0 s7 s8 => ?_)
  · have nw : ¬(w = 1 ∧ false = false) := fun q => by
      unfold zf at hj
      rw [if_pos q] at hj
      cases hj
    unfold zf at hj
    rw [if_neg nw] at hj
    obtain ⟨a1, a2, a3, a4⟩ := zfp_some hT hU P hj
    exact h t false j ⟨fun e => absurd ⟨e, rfl⟩ nw, a1, a2, a3, a4, fun z => (by cases z), pre, by omega⟩ g hg
  · show Z.dT 2 _ (.val (.tuple [.int 1, zsp w T U true])) _ _
    simp only [↓dSeq,↓dAsg,↓dSetL,↓dNext,↓dIfS,↓dRet,↓dRetL,↓dDrop,↓dNever,↓dAug,↓dPar,↓dParL,↓dApp,↓dVar,↓dC,↓dBin,↓fI,↓fI0,↓fAdd,↓fEq,↓fNe,↓fIn,↓dTest,↓dAndT,↓dOrT,↓dNotT,↓dAndV,↓dOrV,↓dNotV,↓dIf,↓dIsN,↓dChain,↓dNil,↓dCons,↓dTup,↓dLst,↓dFz,↓valsD,↓dIx,↓dCall,↓dCallL,↓hasSrc,↓rrv,↓dN,↓dT,↓dTn,↓dTc,↓rsv,↓Gs.set,↓dFor,↓dItems,↓dRange1,↓dLc,↓dCB,↓cLen,↓cAll,↓cTuple,↓cInt1,↓cInt2,↓dIsi,↓dSetS,↓oSub,↓oAddI,↓oMul,↓oDiv,↓oMod,↓oShl,↓oPow,↓oLt,↓oLe,↓oGt,↓oGe,↓oAbs,↓oMin,↓cMinL,↓cSortedD,↓dSl,↓oNo,↓oSo,↓dBy,↓dD0,↓cLZ,↓dEnum,↓fMulT,↓cReprX,↓dRaise,↓dRaise0,↓dStop,↓dDropX,↓dAsgX,↓dTup2X,↓dCallX,↓dXval,↓dTry,↓dHand,↓dAs,↓gAs,↓Gs.unset,↓rtN,↓dLam,↓dAct,↓lamF,↓gLam,↓plainO,↓Z.isNon,↓dIfT,ent,svOf,List.map_cons,List.map_nil,List.cons_append,List.nil_append,List.append_nil,List.replicate,List.length_cons,List.length_nil,List.getElem?_cons_zero,List.getElem?_cons_succ,List.getElem?_nil,List.set_cons_zero,List.set_cons_succ,Option.map_some,Option.map_none,Option.isNone_some,Option.isNone_none,forall_const,true_implies,false_implies,and_true,true_and,Bool.true_eq_false,Bool.false_eq_true,reduceCtorEq,noOwn,wipeS,hide,fuN_self,lcD,dYes,Nat.zero_add,Nat.reduceAdd,Nat.reduceLeDiff,Nat.reduceSub,atI_0,atI_1,atI_2,atI_3,atI_4,atI_5,Int.one_mul,eqv_ii,eqv_ss,eqv_num,shaped_int,shaped_num,shaped_none,shaped_ru,flat_str,flat_int,flat_none,List.all_cons,List.all_nil,Bool.and_true,decide_eq_true_eq,decide_eq_false_iff_not,Bool.not_eq_true',Bool.not_eq_false',Decidable.not_not,↓reduceIte,Bool.false_eq_true,Int.reduceLT,eqv_strs,pick_0,pick_01,pick_10,pick_012,pick_021,pick_102,pick_120,pick_201,pick_210]
    refine i1 (b := true) (t := t) hT hU w1 w2 (by omega) (fun j hj j0 j1 g hg => ?_) (fun hn1 s7 s8 => ?_)
    · unfold zf at hj
      rw [if_neg (by simp)] at hj
      obtain ⟨a1, a2, a3, a4⟩ := zfp_some hT hU P hj
      refine h t true j ⟨fun _ => rfl, a1, a2, a3, a4, fun _ nw => ?_, pre, by omega⟩ g hg
      unfold zf at hn0
      rw [if_neg fun q => nw q.1] at hn0
      exact zfp_none hT hU P hn0
    · have no : ∀ b', (w = 1 → b' = true) → ∀ i, ¬Dif T U b' i (2 ^ t) := fun b' hb => by
        cases b' with
        | true =>
          unfold zf at hn1
          rw [if_neg (by simp)] at hn1
          exact zfp_none hT hU P hn1
        | false =>
          unfold zf at hn0
          rw [if_neg fun q => absurd (hb q.1) (by decide)] at hn0
          exact zfp_none hT hU P hn0
      have lt : t ≠ 101 := fun e => by
        obtain ⟨b0, hb0, hd0⟩ := hne
        obtain ⟨i, hi⟩ := dif_ex hT hU dvT dvU hd0
        rw [e] at no
        exact no b0 hb0 i hi
      simp only [↓dSeq,↓dAsg,↓dSetL,↓dNext,↓dIfS,↓dRet,↓dRetL,↓dDrop,↓dNever,↓dAug,↓dPar,↓dParL,↓dApp,↓dVar,↓dC,↓dBin,↓fI,↓fI0,↓fAdd,↓fEq,↓fNe,↓fIn,↓dTest,↓dAndT,↓dOrT,↓dNotT,↓dAndV,↓dOrV,↓dNotV,↓dIf,↓dIsN,↓dChain,↓dNil,↓dCons,↓dTup,↓dLst,↓dFz,↓valsD,↓dIx,↓dCall,↓dCallL,↓hasSrc,↓rrv,↓dN,↓dT,↓dTn,↓dTc,↓rsv,↓Gs.set,↓dFor,↓dItems,↓dRange1,↓dLc,↓dCB,↓cLen,↓cAll,↓cTuple,↓cInt1,↓cInt2,↓dIsi,↓dSetS,↓oSub,↓oAddI,↓oMul,↓oDiv,↓oMod,↓oShl,↓oPow,↓oLt,↓oLe,↓oGt,↓oGe,↓oAbs,↓oMin,↓cMinL,↓cSortedD,↓dSl,↓oNo,↓oSo,↓dBy,↓dD0,↓cLZ,↓dEnum,↓fMulT,↓cReprX,↓dRaise,↓dRaise0,↓dStop,↓dDropX,↓dAsgX,↓dTup2X,↓dCallX,↓dXval,↓dTry,↓dHand,↓dAs,↓gAs,↓Gs.unset,↓rtN,↓dLam,↓dAct,↓lamF,↓gLam,↓plainO,↓Z.isNon,↓dIfT,ent,svOf,List.map_cons,List.map_nil,List.cons_append,List.nil_append,List.append_nil,List.replicate,List.length_cons,List.length_nil,List.getElem?_cons_zero,List.getElem?_cons_succ,List.getElem?_nil,List.set_cons_zero,List.set_cons_succ,Option.map_some,Option.map_none,Option.isNone_some,Option.isNone_none,forall_const,true_implies,false_implies,and_true,true_and,Bool.true_eq_false,Bool.false_eq_true,reduceCtorEq,noOwn,wipeS,hide,fuN_self,lcD,dYes,Nat.zero_add,Nat.reduceAdd,Nat.reduceLeDiff,Nat.reduceSub,atI_0,atI_1,atI_2,atI_3,atI_4,atI_5,Int.one_mul,eqv_ii,eqv_ss,eqv_num,shaped_int,shaped_num,shaped_none,shaped_ru,flat_str,flat_int,flat_none,List.all_cons,List.all_nil,Bool.and_true,decide_eq_true_eq,decide_eq_false_iff_not,Bool.not_eq_true',Bool.not_eq_false',Decidable.not_not,↓reduceIte,Bool.false_eq_true,Int.reduceLT,eqv_strs,pick_0,pick_01,pick_10,pick_012,pick_021,pick_102,pick_120,pick_201,pick_210]
      refine ⟨mulX 200 64 (Bn.pow2 (by omega)) (Bn.small (by decide) (by decide) (by decide)) (by decide), m - 1, by omega, t + 1, some (.val (.int 1)), some (.val (zsp w T U true)), s7, s8, by omega, fun t' ht' => ?_, ?_⟩
      · rcases Nat.lt_or_ge t' t with q | q
        · exact pre t' q
        · rw [show t' = t by omega]
          exact no
      · rw [Int.pow_succ]
        rfl
theorem p_simplest_difference (rs : List Rv) (fu : Option Nat) (post : Rr → Option Nat → Prop) (hl : rs.length = 2) (h : fs_simplest_difference rs fu post) : b_simplest_difference ⟨fun g => post (.val .none) g.fu, fun r g => post r g.fu, fun _ => False, fun _ => False⟩ (ent N_simplest_difference rs fu) := by
  obtain ⟨c, c', rfl, hc, hc', hw, h1, h2⟩ := h
  obtain ⟨hT, w1, w2⟩ := chT_B hc.ne hc.w
  obtain ⟨hU, _, _⟩ := chT_B hc'.ne hc'.w
  have dvT : ThDv 100 (chT c).2 := fun b => Int.dvd_trans (chT_dv (W := 100) hc.ne hc.w (fun s hs => (hc.w s hs).2) b) (pow_dvd2 (by omega))
  have dvU : ThDv 100 (chT c').2 := fun b => Int.dvd_trans (chT_dv (W := 100) hc'.ne hc'.w (fun s hs => (hc'.w s hs).2) b) (pow_dvd2 (by omega))
  have sw := @p_sdW
  show dSeq _ (dSeq _ (dSeq _ sdW)) _ _
  generalize sdW = L at *
  simp only [↓dSeq,↓dAsg,↓dSetL,↓dNext,↓dIfS,↓dRet,↓dRetL,↓dDrop,↓dNever,↓dAug,↓dPar,↓dParL,↓dApp,↓dVar,↓dC,↓dBin,↓fI,↓fI0,↓fAdd,↓fEq,↓fNe,↓fIn,↓dTest,↓dAndT,↓dOrT,↓dNotT,↓dAndV,↓dOrV,↓dNotV,↓dIf,↓dIsN,↓dChain,↓dNil,↓dCons,↓dTup,↓dLst,↓dFz,↓valsD,↓dIx,↓dCall,↓dCallL,↓hasSrc,↓rrv,↓dN,↓dT,↓dTn,↓dTc,↓rsv,↓Gs.set,↓dFor,↓dItems,↓dRange1,↓dLc,↓dCB,↓cLen,↓cAll,↓cTuple,↓cInt1,↓cInt2,↓dIsi,↓dSetS,↓oSub,↓oAddI,↓oMul,↓oDiv,↓oMod,↓oShl,↓oPow,↓oLt,↓oLe,↓oGt,↓oGe,↓oAbs,↓oMin,↓cMinL,↓cSortedD,↓dSl,↓oNo,↓oSo,↓dBy,↓dD0,↓cLZ,↓dEnum,↓fMulT,↓cReprX,↓dRaise,↓dRaise0,↓dStop,↓dDropX,↓dAsgX,↓dTup2X,↓dCallX,↓dXval,↓dTry,↓dHand,↓dAs,↓gAs,↓Gs.unset,↓rtN,↓dLam,↓dAct,↓lamF,↓gLam,↓plainO,↓Z.isNon,↓dIfT,fs_zones,ent,svOf,List.map_cons,List.map_nil,List.cons_append,List.nil_append,List.append_nil,List.replicate,List.length_cons,List.length_nil,List.getElem?_cons_zero,List.getElem?_cons_succ,List.getElem?_nil,List.set_cons_zero,List.set_cons_succ,Option.map_some,Option.map_none,Option.isNone_some,Option.isNone_none,forall_const,true_implies,false_implies,and_true,true_and,Bool.true_eq_false,Bool.false_eq_true,reduceCtorEq,noOwn,wipeS,hide,fuN_self,lcD,dYes,Nat.zero_add,Nat.reduceAdd,Nat.reduceLeDiff,Nat.reduceSub,atI_0,atI_1,atI_2,atI_3,atI_4,atI_5,Int.one_mul,eqv_ii,eqv_ss,eqv_num,shaped_int,shaped_num,shaped_none,shaped_ru,flat_str,flat_int,flat_none,List.all_cons,List.all_nil,Bool.and_true,decide_eq_true_eq,decide_eq_false_iff_not,Bool.not_eq_true',Bool.not_eq_false',Decidable.not_not,↓reduceIte,Bool.false_eq_true,Int.reduceLT,eqv_strs,pick_0,pick_01,pick_10,pick_012,pick_021,pick_102,pick_120,pick_201,pick_210]
  refine ⟨c, c', rfl, hc, hc', hw, ?_⟩
  have b64 : Bn 64 (1 : Int) := Bn.small (by decide) (by decide) (by decide)
  simp only [↓dSeq,↓dAsg,↓dSetL,↓dNext,↓dIfS,↓dRet,↓dRetL,↓dDrop,↓dNever,↓dAug,↓dPar,↓dParL,↓dApp,↓dVar,↓dC,↓dBin,↓fI,↓fI0,↓fAdd,↓fEq,↓fNe,↓fIn,↓dTest,↓dAndT,↓dOrT,↓dNotT,↓dAndV,↓dOrV,↓dNotV,↓dIf,↓dIsN,↓dChain,↓dNil,↓dCons,↓dTup,↓dLst,↓dFz,↓valsD,↓dIx,↓dCall,↓dCallL,↓hasSrc,↓rrv,↓dN,↓dT,↓dTn,↓dTc,↓rsv,↓Gs.set,↓dFor,↓dItems,↓dRange1,↓dLc,↓dCB,↓cLen,↓cAll,↓cTuple,↓cInt1,↓cInt2,↓dIsi,↓dSetS,↓oSub,↓oAddI,↓oMul,↓oDiv,↓oMod,↓oShl,↓oPow,↓oLt,↓oLe,↓oGt,↓oGe,↓oAbs,↓oMin,↓cMinL,↓cSortedD,↓dSl,↓oNo,↓oSo,↓dBy,↓dD0,↓cLZ,↓dEnum,↓fMulT,↓cReprX,↓dRaise,↓dRaise0,↓dStop,↓dDropX,↓dAsgX,↓dTup2X,↓dCallX,↓dXval,↓dTry,↓dHand,↓dAs,↓gAs,↓Gs.unset,↓rtN,↓dLam,↓dAct,↓lamF,↓gLam,↓plainO,↓Z.isNon,↓dIfT,fs_last_width,ent,svOf,List.map_cons,List.map_nil,List.cons_append,List.nil_append,List.append_nil,List.replicate,List.length_cons,List.length_nil,List.getElem?_cons_zero,List.getElem?_cons_succ,List.getElem?_nil,List.set_cons_zero,List.set_cons_succ,Option.map_some,Option.map_none,Option.isNone_some,Option.isNone_none,forall_const,true_implies,false_implies,and_true,true_and,Bool.true_eq_false,Bool.false_eq_true,reduceCtorEq,noOwn,wipeS,hide,fuN_self,lcD,dYes,Nat.zero_add,Nat.reduceAdd,Nat.reduceLeDiff,Nat.reduceSub,atI_0,atI_1,atI_2,atI_3,atI_4,atI_5,Int.one_mul,eqv_ii,eqv_ss,eqv_num,shaped_int,shaped_num,shaped_none,shaped_ru,flat_str,flat_int,flat_none,List.all_cons,List.all_nil,Bool.and_true,decide_eq_true_eq,decide_eq_false_iff_not,Bool.not_eq_true',Bool.not_eq_false',Decidable.not_not,↓reduceIte,Bool.false_eq_true,Int.reduceLT,eqv_strs,pick_0,pick_01,pick_10,pick_012,pick_021,pick_102,pick_120,pick_201,pick_210]
  obtain ⟨sh, _⟩ := sh_zn (w := (chT c).1) hT hU
  have shp : SeqAt.shaped (znD (chT c).1 (chT c).2 (chT c').2) = true := by
    unfold SeqAt.shaped
    rw [sh.1, Bool.true_and]
    exact decide_eq_true (Nat.le_trans sh.2.2.1 (by decide))
  refine ⟨shp, rfl, fun q => ?_, fun q => ⟨c, rfl, hc, shlX 64 b64 (by omega) (by omega), ?_⟩⟩
  · rw [zn_none] at q
    exact h1 (fun nw => (q.1 nw)) q.2
  · refine sw hT hU dvT dvU w1 w2 ?_ fun t b j hs g hg => ?_
    · have q' : ¬((znD (chT c).1 (chT c).2 (chT c').2).eqv (.tuple [.none, .none]) = true) := by rw [q]; decide
      rw [zn_none] at q'
      by_cases z : (chT c).2 true = (chT c').2 true
      · have : ¬((chT c).1 ≠ 1 → (chT c).2 false = (chT c').2 false) := fun y => q' ⟨y, z⟩
        exact ⟨false, fun e => absurd (fun ne => absurd e ne) this, fun e => this fun _ => e⟩
      · exact ⟨true, fun _ => rfl, z⟩
    · show post _ g.fu
      rw [hg]
      exact h2 t b j hs
section
variable {P : Program} {w : World} {K : Fg} {mg : Str → Option Value} {base : Heap}
theorem d_simplest_difference (T : Tx w K mg) {cdv : Value} {A : Around} {outer : List Env} {s : Shared} {H : Hp} {E : XK} (hr : Room 8 (A.deeper (envOfC "simplest_difference" (defScope st_simplest_difference) s.heap.objs.size T.f_simplest_difference cdv))) (hgd : (A.deeper (envOfC "simplest_difference" (defScope st_simplest_difference) s.heap.objs.size T.f_simplest_difference cdv)).guards = some []) :
    PSs (cxOf CX0 P w K mg base N_simplest_difference "simplest_difference" (defScope st_simplest_difference) T.f_simplest_difference cdv A outer s H E).nox (defBody st_simplest_difference) (upS K W0 b_simplest_difference) :=
  (ss_cons (s_set (i := 2) sc_simplest_difference.nd rfl (.inl rfl) (e_call (ok_zones T) (hr.mono (by decide)) hgd (by rfl) T.g_zones T.F_zones.kp T.b_zones pass0 (a_cons (e_var 0 (pv 0)) (a_cons (e_var 1 (pv 1)) a_nil))))
    (ss_cons (s_if (t_eq hr.units (e_var 2 (pv 2)) (e_tup (a_cons e_non (a_cons e_non a_nil)))) (ss_one (s_ret e_non)) ss_nil)
    (ss_cons (s_par (i := 3) (j := 4) rfl sc_simplest_difference.nd rfl rfl (by decide) rfl rfl (e_shl e_int (e_sub (e_call (ok_last_width T) (hr.mono (by decide)) hgd (by rfl) T.g_last_width T.F_last_width.kp T.b_last_width pass0 (a_cons (e_var 0 (pv 0)) a_nil)) e_int)) e_int)
    (ss_one (s_while PassesOwn.never (t_val e_bl) (ss_cons (s_for PassesOwn.never rfl (i_enum (by rfl) T.n_enumerate (e_var 2 (pv 2))) (g_tup rfl (gs_cons (g_name (pg_name (i := 5) sc_simplest_difference.nd rfl (.inl rfl))) (gs_cons (g_name (pg_name (i := 6) sc_simplest_difference.nd rfl (.inl rfl))) gs_nil))) (ss_cons (s_set (i := 7) sc_simplest_difference.nd rfl (.inl rfl) (e_if (t_notN (e_var 6 (pv 6))) (e_call (ok_first_part T) (hr.mono (by decide)) hgd (by rfl) T.g_first_part T.F_first_part.kp T.b_first_part pass0 (a_cons (e_var 6 (pv 6)) (a_cons (e_var 4 (pv 4)) a_nil))) e_non))
    (ss_one (s_if (t_notN (e_var 7 (pv 7))) (ss_cons (s_set (i := 8) sc_simplest_difference.nd rfl (.inl rfl) (e_add (e_var 3 (pv 3)) (e_mod (e_add (e_var 3 (pv 3)) (e_var 5 (pv 5))) e_int)))
    (ss_one (s_ret (e_call (ok_lowest T) (hr.mono (by decide)) hgd (by rfl) T.g_lowest T.F_lowest.kp T.b_lowest pass0 (a_cons (e_add (e_mul (e_var 8 (pv 8)) (e_var 4 (pv 4))) (e_var 7 (pv 7))) (a_cons (e_var 4 (pv 4)) a_nil)))))) ss_nil))))
    (ss_one (s_set (i := 4) sc_simplest_difference.nd rfl (.inl rfl) (e_mul (e_var 4 (pv 4)) e_int)))))))))
theorem ok_simplest_difference (T : Tx w K mg) : Fn P w K mg base CX0 9 T.f_simplest_difference T.fd_simplest_difference ["one", "other"] (lift K 2 fs_simplest_difference) := fn_data T.F_simplest_difference sc_simplest_difference b_simplest_difference (fun _ _ _ _ _ _ hr hgd => d_simplest_difference T hr hgd) p_simplest_difference
end
def b_simplest_differenceX : DS :=
  (dSeq (dAsgX 2 (dCallX 2 (orF fs_zones fs_zonesX) (dCons (dVar 0) (dCons (dVar 1) dNil))))
  dStop)
def fs_simplest_differenceX : FSp := fun rs fu post => ∃ v u, rs = [.val v, .val u] ∧ ShX v ∧ ShX u ∧ zX v u fun r => post r fu
theorem p_simplest_differenceX (rs : List Rv) (fu : Option Nat) (post : Rr → Option Nat → Prop) (hl : rs.length = 2) (h : fs_simplest_differenceX rs fu post) : b_simplest_differenceX ⟨fun g => post (.val .none) g.fu, fun r g => post r g.fu, fun _ => False, fun _ => False⟩ (ent N_simplest_difference rs fu) := by
  obtain ⟨v, u, rfl, hv, hu, h⟩ := h
  simp only [↓dSeq,↓dAsg,↓dSetL,↓dNext,↓dIfS,↓dRet,↓dRetL,↓dDrop,↓dNever,↓dAug,↓dPar,↓dParL,↓dApp,↓dVar,↓dC,↓dBin,↓fI,↓fI0,↓fAdd,↓fEq,↓fNe,↓fIn,↓dTest,↓dAndT,↓dOrT,↓dNotT,↓dAndV,↓dOrV,↓dNotV,↓dIf,↓dIsN,↓dChain,↓dNil,↓dCons,↓dTup,↓dLst,↓dFz,↓valsD,↓dIx,↓dCall,↓dCallL,↓hasSrc,↓rrv,↓dN,↓dT,↓dTn,↓dTc,↓rsv,↓Gs.set,↓dFor,↓dItems,↓dRange1,↓dLc,↓dCB,↓cLen,↓cAll,↓cTuple,↓cInt1,↓cInt2,↓dIsi,↓dSetS,↓oSub,↓oAddI,↓oMul,↓oDiv,↓oMod,↓oShl,↓oPow,↓oLt,↓oLe,↓oGt,↓oGe,↓oAbs,↓oMin,↓cMinL,↓cSortedD,↓dSl,↓oNo,↓oSo,↓dBy,↓dD0,↓cLZ,↓dEnum,↓fMulT,↓cReprX,↓dRaise,↓dRaise0,↓dStop,↓dDropX,↓dAsgX,↓dTup2X,↓dCallX,↓dXval,↓dTry,↓dHand,↓dAs,↓gAs,↓Gs.unset,↓rtN,↓dLam,↓dAct,↓lamF,↓gLam,↓plainO,↓Z.isNon,↓dIfT,b_simplest_differenceX,ent,svOf,List.map_cons,List.map_nil,List.cons_append,List.nil_append,List.append_nil,List.replicate,List.length_cons,List.length_nil,List.getElem?_cons_zero,List.getElem?_cons_succ,List.getElem?_nil,List.set_cons_zero,List.set_cons_succ,Option.map_some,Option.map_none,Option.isNone_some,Option.isNone_none,forall_const,true_implies,false_implies,and_true,true_and,Bool.true_eq_false,Bool.false_eq_true,reduceCtorEq,noOwn,wipeS,hide,fuN_self,lcD,dYes,Nat.zero_add,Nat.reduceAdd,Nat.reduceLeDiff,Nat.reduceSub,atI_0,atI_1,atI_2,atI_3,atI_4,atI_5,Int.one_mul,eqv_ii,eqv_ss,eqv_num,shaped_int,shaped_num,shaped_none,shaped_ru,flat_str,flat_int,flat_none,List.all_cons,List.all_nil,Bool.and_true,decide_eq_true_eq,decide_eq_false_iff_not,Bool.not_eq_true',Bool.not_eq_false',Decidable.not_not,↓reduceIte,Bool.false_eq_true,Int.reduceLT,eqv_strs,pick_0,pick_01,pick_10,pick_012,pick_021,pick_102,pick_120,pick_201,pick_210]
  exact .inr ⟨v, u, rfl, hv, hu, h⟩
section
variable {P : Program} {w : World} {K : Fg} {mg : Str → Option Value} {base : Heap}
theorem d_simplest_differenceX (T : Tx w K mg) {cdv : Value} {A : Around} {outer : List Env} {s : Shared} {H : Hp} {E : XK} (hr : Room 8 (A.deeper (envOfC "simplest_difference" (defScope st_simplest_difference) s.heap.objs.size T.f_simplest_difference cdv))) (hgd : (A.deeper (envOfC "simplest_difference" (defScope st_simplest_difference) s.heap.objs.size T.f_simplest_difference cdv)).guards = some [])
    (tk : Takes (cxOf (L2.CX P w) P w K mg base N_simplest_difference "simplest_difference" (defScope st_simplest_difference) T.f_simplest_difference cdv A outer s H E) (fun cls d _ H => E cls d H)) :
    PSs (cxOf (L2.CX P w) P w K mg base N_simplest_difference "simplest_difference" (defScope st_simplest_difference) T.f_simplest_difference cdv A outer s H E) (defBody st_simplest_difference) (upS K (fun cls d _ H => E cls d H) b_simplest_differenceX) :=
  (ss_cons (s_setX (i := 2) sc_simplest_difference.nd rfl (.inl rfl) (x_call tk (ok_zonesO T) (hr.mono (by decide)) hgd (by rfl) T.g_zones T.F_zones.kp T.b_zones (a_cons (e_var 0 (pv 0)) (a_cons (e_var 1 (pv 1)) a_nil))))
    ss_stop)
theorem ok_simplest_differenceX (T : Tx w K mg) : Fn P w K mg base (L2.CX P w) 9 T.f_simplest_difference T.fd_simplest_difference ["one", "other"] (liftX K 2 fs_simplest_differenceX) := fn_dataX T.F_simplest_difference sc_simplest_difference b_simplest_differenceX (fun _ _ _ _ _ _ hr hgd tk => d_simplest_differenceX T hr hgd tk) p_simplest_differenceX
theorem ok_simplest_differenceO (T : Tx w K mg) : Fn P w K mg base (L2.CX P w) 9 T.f_simplest_difference T.fd_simplest_difference ["one", "other"] (liftX K 2 (orF fs_simplest_difference fs_simplest_differenceX)) := fn_orX (ok_simplest_difference T) (ok_simplest_differenceX T)
end
def b__law_source : DS :=
  (dSeq (dAsg (dIf (dTest (dBin oLt (dVar 1) (dCB cLen (dCons (dVar 0) dNil)))) (dIx (dVar 0) (dVar 1)) (dC (.int 0))) (dN 2))
  (dSeq (dAsg (dIf (dTest (dBin oGe (dCB oAbs (dCons (dVar 2) dNil)) (dBin oPow (dC (.int 10)) (dC (.int 18))))) (dBin oMod (dCB oAbs (dCons (dVar 2) dNil)) (dBin oPow (dBin oPow (dC (.int 10)) (dC (.int 60))) (dC (.int 4)))) (dC (.int 0))) (dN 3))
  (dRetL (dLst (dCons (dVar 3) (dCons (dBin oMod (dBin fAdd (dBin fAdd (dBin oMul (dBin oMod (dVar 2) (dC (.int 2305843009213693951))) (dC (.int 1000003))) (dBin oMul (dBin oMul (dC (.int 7919)) (dVar 1)) (dVar 1))) (dC (.int 97))) (dC (.int 2305843009213693921))) (dCons (dC (.int 0)) dNil)))))))
def fs__law_source : FSp := fun rs fu post => ∃ (ns : List Int) (k : Int), rs = [.scr ns, .val (.int k)] ∧ 0 ≤ k ∧ k < 1000000 ∧ ∀ x y : Int, 0 ≤ x → x < 2 ^ 1000 → 0 ≤ y → y < modS → post (.own [.int x, .int y, .int 0]) fu
theorem atI_nn {ns : List Int} {k : Int} (h0 : 0 ≤ k) (h : k < ns.length) : ∃ z, atI ns k = some z := by
  unfold atI ixN
  rw [if_pos h0, if_pos h]
  exact ⟨_, List.getElem?_eq_getElem (show k.toNat < ns.length by omega)⟩
theorem pw1 : CPowX 10 18 := ⟨by decide, by decide +kernel⟩
theorem pw2 : CPowX 10 60 := ⟨by decide, by decide +kernel⟩
theorem pw3 : CPowX (10 ^ Int.toNat 60) 4 := ⟨by decide, by decide +kernel⟩
theorem pw4 : (0 : Int) < (10 ^ Int.toNat 60) ^ Int.toNat 4 := by decide +kernel
theorem pw5 : ((10 : Int) ^ Int.toNat 60) ^ Int.toNat 4 ≤ 2 ^ 1000 := by decide +kernel
theorem src_fin {fu : Option Nat} {post : Rr → Option Nat → Prop} {z k : Int} (h1 : 0 ≤ k) (h2 : k < 1000000) (h : ∀ x y : Int, 0 ≤ x → x < 2 ^ 1000 → 0 ≤ y → y < modS → post (.own [.int x, .int y, .int 0]) fu) :
    CMulX (z % 2305843009213693951) 1000003 ∧ CMulX 7919 k ∧ CMulX (7919 * k) k ∧ ∀ x : Int, 0 ≤ x → x < 2 ^ 1000 → post (.own [.int x, .int ((z % 2305843009213693951 * 1000003 + 7919 * k * k + 97) % 2305843009213693921), .int 0]) fu := by
  have a1 := Int.emod_nonneg z (show (2305843009213693951 : Int) ≠ 0 by decide)
  have a2 := Int.emod_lt_of_pos z (show (0 : Int) < 2305843009213693951 by decide)
  refine ⟨mulX 64 64 (Bn.small (by omega) (by omega) (by decide)) (Bn.small (by decide) (by decide) (by decide)) (by decide), mulX 64 64 (Bn.small (by decide) (by decide) (by decide)) (Bn.small (by omega) (by omega) (by decide)) (by decide),
    mulX 64 64 (Bn.small (by omega) (by omega) (by decide)) (Bn.small (by omega) (by omega) (by decide)) (by decide), fun x x0 x1 => h x _ x0 x1 (Int.emod_nonneg _ (by decide)) (Int.emod_lt_of_pos _ (by decide))⟩
/-- the body behind its first statement -/
def srcT : DS := (dSeq (dAsg (dIf (dTest (dBin oGe (dCB oAbs (dCons (dVar 2) dNil)) (dBin oPow (dC (.int 10)) (dC (.int 18))))) (dBin oMod (dCB oAbs (dCons (dVar 2) dNil)) (dBin oPow (dBin oPow (dC (.int 10)) (dC (.int 60))) (dC (.int 4)))) (dC (.int 0))) (dN 3))
  (dRetL (dLst (dCons (dVar 3) (dCons (dBin oMod (dBin fAdd (dBin fAdd (dBin oMul (dBin oMod (dVar 2) (dC (.int 2305843009213693951))) (dC (.int 1000003))) (dBin oMul (dBin oMul (dC (.int 7919)) (dVar 1)) (dVar 1))) (dC (.int 97))) (dC (.int 2305843009213693921))) (dCons (dC (.int 0)) dNil))))))
def srcB : DS := (dSeq (dAsg (dIf (dTest (dBin oLt (dVar 1) (dCB cLen (dCons (dVar 0) dNil)))) (dIx (dVar 0) (dVar 1)) (dC (.int 0))) (dN 2)) srcT)
theorem p_srcT (z : Int) (fu : Option Nat) (post : Rr → Option Nat → Prop) {ns : List Int} {k : Int} (h1 : 0 ≤ k) (h2 : k < 1000000) (h : ∀ x y : Int, 0 ≤ x → x < 2 ^ 1000 → 0 ≤ y → y < modS → post (.own [.int x, .int y, .int 0]) fu) : srcT ⟨fun g => post (.val .none) g.fu, fun r g => post r g.fu, fun _ => False, fun _ => False⟩ ⟨[some (.scr ns), some (.val (.int k)), some (.val (.int z)), none], fu, fu.isNone⟩ := by
  have m0 : ∀ a : Int, 0 ≤ a % (10 ^ Int.toNat 60) ^ Int.toNat 4 ∧ a % (10 ^ Int.toNat 60) ^ Int.toNat 4 < 2 ^ 1000 := fun a => ⟨Int.emod_nonneg _ (Int.ne_of_gt pw4), Int.lt_of_lt_of_le (Int.emod_lt_of_pos _ pw4) pw5⟩
  have p0 : (0 : Int) < 2 ^ 1000 := pow2_pos _
  simp only [↓dSeq,↓dAsg,↓dSetL,↓dNext,↓dIfS,↓dRet,↓dRetL,↓dDrop,↓dNever,↓dAug,↓dPar,↓dParL,↓dApp,↓dVar,↓dC,↓dBin,↓fI,↓fI0,↓fAdd,↓fEq,↓fNe,↓fIn,↓dTest,↓dAndT,↓dOrT,↓dNotT,↓dAndV,↓dOrV,↓dNotV,↓dIf,↓dIsN,↓dChain,↓dNil,↓dCons,↓dTup,↓dLst,↓dFz,↓valsD,↓dIx,↓dCall,↓dCallL,↓hasSrc,↓rrv,↓dN,↓dT,↓dTn,↓dTc,↓rsv,↓Gs.set,↓dFor,↓dItems,↓dRange1,↓dLc,↓dCB,↓cLen,↓cAll,↓cTuple,↓cInt1,↓cInt2,↓dIsi,↓dSetS,↓oSub,↓oAddI,↓oMul,↓oDiv,↓oMod,↓oShl,↓oPow,↓oLt,↓oLe,↓oGt,↓oGe,↓oAbs,↓oMin,↓cMinL,↓cSortedD,↓dSl,↓oNo,↓oSo,↓dBy,↓dD0,↓cLZ,↓dEnum,↓fMulT,↓cReprX,↓dRaise,↓dRaise0,↓dStop,↓dDropX,↓dAsgX,↓dTup2X,↓dCallX,↓dXval,↓dTry,↓dHand,↓dAs,↓gAs,↓Gs.unset,↓rtN,↓dLam,↓dAct,↓lamF,↓gLam,↓plainO,↓Z.isNon,↓dIfT,srcT,ent,svOf,List.map_cons,List.map_nil,List.cons_append,List.nil_append,List.append_nil,List.replicate,List.length_cons,List.length_nil,List.getElem?_cons_zero,List.getElem?_cons_succ,List.getElem?_nil,List.set_cons_zero,List.set_cons_succ,Option.map_some,Option.map_none,Option.isNone_some,Option.isNone_none,forall_const,true_implies,false_implies,and_true,true_and,Bool.true_eq_false,Bool.false_eq_true,reduceCtorEq,noOwn,wipeS,hide,fuN_self,lcD,dYes,Nat.zero_add,Nat.reduceAdd,Nat.reduceLeDiff,Nat.reduceSub,atI_0,atI_1,atI_2,atI_3,atI_4,atI_5,Int.one_mul,eqv_ii,eqv_ss,eqv_num,shaped_int,shaped_num,shaped_none,shaped_ru,flat_str,flat_int,flat_none,List.all_cons,List.all_nil,Bool.and_true,decide_eq_true_eq,decide_eq_false_iff_not,Bool.not_eq_true',Bool.not_eq_false',Decidable.not_not,↓reduceIte,Bool.false_eq_true,Int.reduceLT,eqv_strs,pick_0,pick_01,pick_10,pick_012,pick_021,pick_102,pick_120,pick_201,pick_210]
  obtain ⟨f1, f2, f3, f4⟩ := src_fin (z := z) h1 h2 h
  exact ⟨pw1, fun _ => ⟨pw2, pw3, pw4, f1, f2, f3, f4 _ (m0 _).1 (m0 _).2⟩, fun _ => ⟨f1, f2, f3, f4 0 (Int.le_refl 0) p0⟩⟩
theorem p_srcB (fu : Option Nat) (post : Rr → Option Nat → Prop) {ns : List Int} {k : Int} (h1 : 0 ≤ k) (h2 : k < 1000000) (h : ∀ x y : Int, 0 ≤ x → x < 2 ^ 1000 → 0 ≤ y → y < modS → post (.own [.int x, .int y, .int 0]) fu) : srcB ⟨fun g => post (.val .none) g.fu, fun r g => post r g.fu, fun _ => False, fun _ => False⟩ (ent N__law_source [.scr ns, .val (.int k)] fu) := by
  simp only [↓dSeq,↓dAsg,↓dSetL,↓dNext,↓dIfS,↓dRet,↓dRetL,↓dDrop,↓dNever,↓dAug,↓dPar,↓dParL,↓dApp,↓dVar,↓dC,↓dBin,↓fI,↓fI0,↓fAdd,↓fEq,↓fNe,↓fIn,↓dTest,↓dAndT,↓dOrT,↓dNotT,↓dAndV,↓dOrV,↓dNotV,↓dIf,↓dIsN,↓dChain,↓dNil,↓dCons,↓dTup,↓dLst,↓dFz,↓valsD,↓dIx,↓dCall,↓dCallL,↓hasSrc,↓rrv,↓dN,↓dT,↓dTn,↓dTc,↓rsv,↓Gs.set,↓dFor,↓dItems,↓dRange1,↓dLc,↓dCB,↓cLen,↓cAll,↓cTuple,↓cInt1,↓cInt2,↓dIsi,↓dSetS,↓oSub,↓oAddI,↓oMul,↓oDiv,↓oMod,↓oShl,↓oPow,↓oLt,↓oLe,↓oGt,↓oGe,↓oAbs,↓oMin,↓cMinL,↓cSortedD,↓dSl,↓oNo,↓oSo,↓dBy,↓dD0,↓cLZ,↓dEnum,↓fMulT,↓cReprX,↓dRaise,↓dRaise0,↓dStop,↓dDropX,↓dAsgX,↓dTup2X,↓dCallX,↓dXval,↓dTry,↓dHand,↓dAs,↓gAs,↓Gs.unset,↓rtN,↓dLam,↓dAct,↓lamF,↓gLam,↓plainO,↓Z.isNon,↓dIfT,srcB,ent,svOf,List.map_cons,List.map_nil,List.cons_append,List.nil_append,List.append_nil,List.replicate,List.length_cons,List.length_nil,List.getElem?_cons_zero,List.getElem?_cons_succ,List.getElem?_nil,List.set_cons_zero,List.set_cons_succ,Option.map_some,Option.map_none,Option.isNone_some,Option.isNone_none,forall_const,true_implies,false_implies,and_true,true_and,Bool.true_eq_false,Bool.false_eq_true,reduceCtorEq,noOwn,wipeS,hide,fuN_self,lcD,dYes,Nat.zero_add,Nat.reduceAdd,Nat.reduceLeDiff,Nat.reduceSub,atI_0,atI_1,atI_2,atI_3,atI_4,atI_5,Int.one_mul,eqv_ii,eqv_ss,eqv_num,shaped_int,shaped_num,shaped_none,shaped_ru,flat_str,flat_int,flat_none,List.all_cons,List.all_nil,Bool.and_true,decide_eq_true_eq,decide_eq_false_iff_not,Bool.not_eq_true',Bool.not_eq_false',Decidable.not_not,↓reduceIte,Bool.false_eq_true,Int.reduceLT,eqv_strs,pick_0,pick_01,pick_10,pick_012,pick_021,pick_102,pick_120,pick_201,pick_210]
  refine ⟨fun hk => ?_, fun hk => p_srcT 0 fu post h1 h2 h⟩
  obtain ⟨z, ez⟩ := atI_nn h1 hk
  rw [ez]
  exact p_srcT z fu post h1 h2 h
theorem p__law_source (rs : List Rv) (fu : Option Nat) (post : Rr → Option Nat → Prop) (hl : rs.length = 2) (h : fs__law_source rs fu post) : b__law_source ⟨fun g => post (.val .none) g.fu, fun r g => post r g.fu, fun _ => False, fun _ => False⟩ (ent N__law_source rs fu) := by
  obtain ⟨ns, k, rfl, h1, h2, h⟩ := h
  exact p_srcB fu post h1 h2 h
section
variable {P : Program} {w : World} {K : Fg} {mg : Str → Option Value} {base : Heap}
theorem d__law_source (T : Tx w K mg) {cdv : Value} {A : Around} {outer : List Env} {s : Shared} {H : Hp} {E : XK} (hr : Room 0 (A.deeper (envOfC "_law_source" (defScope st__law_source) s.heap.objs.size T.f__law_source cdv))) (hgd : (A.deeper (envOfC "_law_source" (defScope st__law_source) s.heap.objs.size T.f__law_source cdv)).guards = some []) :
    PSs (cxOf CX0 P w K mg base N__law_source "_law_source" (defScope st__law_source) T.f__law_source cdv A outer s H E).nox (defBody st__law_source) (upS K W0 b__law_source) :=
  (ss_cons (s_set (i := 2) sc__law_source.nd rfl (.inl rfl) (e_if (t_lt (e_var 1 (pv 1)) (e_len (by rfl) T.n_len (a_cons (e_var 0 (pv 0)) a_nil))) (e_ix (e_var 0 (pv 0)) (e_var 1 (pv 1))) e_int))
    (ss_cons (s_set (i := 3) sc__law_source.nd rfl (.inl rfl) (e_if (t_ge (e_abs (by rfl) T.n_abs (a_cons (e_var 2 (pv 2)) a_nil)) (e_pow e_int e_int)) (e_mod (e_abs (by rfl) T.n_abs (a_cons (e_var 2 (pv 2)) a_nil)) (e_pow (e_pow e_int e_int) e_int)) e_int))
    (ss_one (s_retL (e_lstL (a_cons (e_var 3 (pv 3)) (a_cons (e_mod (e_add (e_add (e_mul (e_mod (e_var 2 (pv 2)) e_int) e_int) (e_mul (e_mul e_int (e_var 1 (pv 1))) (e_var 1 (pv 1)))) e_int) e_int) (a_cons e_int a_nil))))))))
theorem ok__law_source (T : Tx w K mg) : Fn P w K mg base CX0 1 T.f__law_source T.fd__law_source ["_law_script", "_law_k"] (lift K 2 fs__law_source) := fn_data T.F__law_source sc__law_source b__law_source (fun _ _ _ _ _ _ hr hgd => d__law_source T hr hgd) p__law_source
end
/-- a draw: some int below the size, one draw less left -/
def fs__law_draw : FSp := fun rs fu post => ∃ (n : Int) (m : Nat), rs = [.src, .val (.int n)] ∧ fu = some (m + 1) ∧ 0 < n ∧ Bn 9000 n ∧ ∀ i : Int, 0 ≤ i → i < n → post (.val (.int i)) (some m)
theorem at3_0 {x y z : V} : atI [x, y, z] 0 = some x := atI_0
theorem at3_1 {x y z : V} : atI [x, y, z] 1 = some y := atI_1
theorem at3_2 {x y z : V} : atI [x, y, z] 2 = some z := atI_2
section
variable {P : Program} {w : World} {K : Fg} {mg : Str → Option Value} {base : Heap}
/-- behind the draw: all but the source is as it was -/
theorem draw_out {F H : Hp} {a : Addr} {m : Nat} {x y z i : Int} {o : List V} (tk : TabK K F H) (e : Ex F H) (hF : F a = none) (hH : H a = some (.lst o)) (hx : 0 ≤ x ∧ x < 2 ^ 1000 ∧ 0 ≤ y ∧ y < modS ∧ 0 ≤ z ∧ z + m ≤ 2 ^ 40) :
    Out K F H a (some (m + 1)) (some m) F (upd H a (.lst [.int x, .int y, .int z])) (.int i) (.val (.int i)) := by
  refine ⟨Ex.refl F, fun b u q => ?_, fun b u hb _ q => ?_, fun b q => .inl q, fun _ => ⟨m, rfl, hF, x, y, z, upd_same, hx⟩, Rp.int i, .but hH (fun _ z => by cases z) fun b u nb q => by rw [upd_ne nb]; exact q, tk.but hH (fun _ z => by cases z) fun b u nb q => by rw [upd_ne nb]; exact q⟩
  · rw [upd_ne (fun h => by rw [h, hF] at q; cases q)]; exact e b u q
  · rw [upd_ne (hb (fun h => nomatch h))]; exact q
theorem ok__law_draw (T : Tx w K mg) : Fn P w K mg base CX0 1 T.f__law_draw T.fd__law_draw ["_law_source_here", "_law_size"] (lift K 2 fs__law_draw) := by
  refine fn_by T.F__law_draw sc__law_draw lift_len fun cdv A outer s H vs Q E hr hg h => ?_
  obtain ⟨F, a, rs, fu, post, e, tm, hlen, hsrc, tk, ⟨n, m, rfl, rfl, n0, nB, hp⟩, hq⟩ := h
  obtain ⟨hF, x, y, z, hH, x0, x1, y0, y1, z0, z1⟩ := hsrc (m + 1) rfl
  have hv : vs = [.ref a, .int n] := by
    cases tm with
    | cons h1 t =>
      cases t.i1
      rw [h1.1]
  subst hv
  have zB : z < 2 ^ 40 := by omega
  have e40 : (2 : Int) ^ 40 = 1099511627776 := by decide
  rw [e40] at zB z1
  refine ⟨_, PSs.nox (pss_cons (ps_if (pt_cmpR op_gt (pe_ix ix_list (pv 0) pe_int (fun _ _ => rfl)) pe_int (nomark _))
      (pss_cons (ps_set (i := 2) sc__law_draw.nd rfl (.inl rfl) (pe_op op_mod (pe_ix ix_list (pv 0) pe_int (fun _ _ => rfl)) (pv 1)))
      (pss_cons (ps_asg (pe_op op_fdivW (pe_ix ix_list (pv 0) pe_int (fun _ _ => rfl)) (pv 1)) (pg_sub (pv 0) pe_int set_list))
      (pss_one (ps_ret (pv 2))))) pss_nil)
    (pss_cons (ps_asg (pe_op op_add (pe_ix ix_list (pv 0) pe_int (fun _ _ => rfl)) pe_int) (pg_sub (pv 0) pe_int set_list))
    (pss_cons (ps_set (i := 3) sc__law_draw.nd rfl (.inl rfl) (pe_ix ix_list (pv 0) pe_int (fun _ _ => rfl)))
    (pss_cons (ps_set (i := 4) sc__law_draw.nd rfl (.inl rfl) (pe_op op_mod (pe_op op_mulX (pe_op op_add (pe_op op_add (pe_ix ix_list (pv 0) pe_int (fun _ _ => rfl)) (pe_op op_mulX (pe_op op_mulX pe_int (pv 3)) (pv 3))) pe_int) pe_int) pe_int))
    (pss_cons (ps_set (i := 4) sc__law_draw.nd rfl (.inl rfl) (pe_op op_mod (pe_op op_mulX (pv 4) (pe_op op_add (pe_op op_mod (pv 4) pe_int) (pe_op op_mulX pe_int (pv 3)))) pe_int))
    (pss_one (ps_ret (pe_op op_mod (pe_op op_add (pe_op op_fdivW (pv 4) pe_int) (pe_op op_fdivW (pv 4) pe_int)) (pv 1))))))))), ?_⟩
  have sq : SqL K H a [.int x, .int y, .int z] := .inl (.inl hH)
  refine ⟨.ref a, rfl, a, _, 0, _, rfl, rfl, sq, at3_0, x, 0, rfl, rfl, _, rfl, ite2 (fun c => ?_) (fun c => ?_)⟩
  · have c' : 0 < x := of_decide_eq_true c
    refine ⟨.ref a, rfl, a, _, 0, _, rfl, rfl, sq, at3_0, .int n, rfl, x, n, rfl, rfl, n0, ?_⟩
    refine ⟨.ref a, rfl, a, _, 0, _, rfl, rfl, sq, at3_0, .int n, rfl, x, n, rfl, rfl, divX 9000 n0 nB (Nat.le_refl _), ?_⟩
    refine ⟨.ref a, rfl, a, _, 0, 0, rfl, rfl, hH, rfl, .int (x % n), rfl, ?_⟩
    refine hq _ _ _ _ F (hp (x % n) (Int.emod_nonneg _ (by omega)) (Int.emod_lt_of_pos _ n0)) (draw_out (x := x / n) (y := y) (z := z) tk e hF hH ⟨Int.ediv_nonneg x0 (by omega), ?_, y0, y1, z0, by omega⟩)
    exact Int.lt_of_le_of_lt (Int.ediv_le_self _ x0) x1
  · have hH2 : (upd H a (.lst [.int x, .int y, .int (z + 1)])) a = some (.lst [.int x, .int y, .int (z + 1)]) := upd_same
    have sq2 : SqL K (upd H a (.lst [.int x, .int y, .int (z + 1)])) a [.int x, .int y, .int (z + 1)] := .inl (.inl hH2)
    refine ⟨.ref a, rfl, a, _, 2, _, rfl, rfl, sq, at3_2, z, 1, rfl, rfl, .ref a, rfl, a, _, 2, 2, rfl, rfl, hH, rfl, ?_⟩
    refine ⟨.ref a, rfl, a, _, 2, _, rfl, rfl, sq2, at3_2, ?_⟩
    have y2 : y < 2305843009213693921 := y1
    have zz1 : Bn 64 (z + 1) := Bn.small (by omega) (by omega) (by decide)
    have m1 : Bn 128 (65537 * (z + 1)) := (Bn.small (m := 64) (i := 65537) (by decide) (by decide) (by decide)).mul zz1
    have m2 : Bn 192 (65537 * (z + 1) * (z + 1)) := m1.mul zz1
    have m3 : Bn 194 (y + 65537 * (z + 1) * (z + 1) + 11) := ((Bn.small (m := 192) (i := y) (by omega) (by omega) (by decide)).add m2).add (Bn.small (by decide) (by decide) (by decide))
    refine ⟨.ref a, rfl, a, _, 1, _, rfl, rfl, sq2, at3_1, .int (z + 1), rfl, 65537, z + 1, rfl, rfl, mulX 64 64 (Bn.small (by decide) (by decide) (by decide)) zz1 (by decide), .int (z + 1), rfl, _, _, rfl, rfl, mulX 128 64 m1 zz1 (by decide), _, _, rfl, rfl, _, _, rfl, rfl, _, _, rfl, rfl, mulX 194 64 m3 (Bn.small (by decide) (by decide) (by decide)) (by decide), _, _, rfl, rfl, (show (0 : Int) < 2305843009213693921 by decide), ?_⟩
    dsimp only
    generalize hmx : (y + 65537 * (z + 1) * (z + 1) + 11) * 48271 % 2305843009213693921 = mx
    have mx0 : 0 ≤ mx := by rw [← hmx]; exact Int.emod_nonneg _ (by decide)
    have mx1 : mx < 2305843009213693921 := by rw [← hmx]; exact Int.emod_lt_of_pos _ (by decide)
    have r0 := Int.emod_nonneg mx (show (1000003 : Int) ≠ 0 by decide)
    have r1 := Int.emod_lt_of_pos mx (show (0 : Int) < 1000003 by decide)
    have m4 : Bn 128 (99991 * (z + 1)) := (Bn.small (m := 64) (i := 99991) (by decide) (by decide) (by decide)).mul zz1
    have m5 : Bn 129 (mx % 1000003 + 99991 * (z + 1)) := (Bn.small (m := 128) (by omega) (by omega) (by decide)).add m4
    refine ⟨.int mx, rfl, .int mx, rfl, mx, 1000003, rfl, rfl, (show (0 : Int) < 1000003 by decide), .int (z + 1), rfl, 99991, z + 1, rfl, rfl, mulX 64 64 (Bn.small (by decide) (by decide) (by decide)) zz1 (by decide), _, _, rfl, rfl, _, _, rfl, rfl, mulX 64 129 (Bn.small (by omega) (by omega) (by decide)) m5 (by decide), _, _, rfl, rfl, (show (0 : Int) < 2305843009213693907 by decide), ?_⟩
    dsimp only
    generalize mx * (mx % 1000003 + 99991 * (z + 1)) % 2305843009213693907 = my
    refine ⟨.int my, rfl, my, 97, rfl, rfl, divX 64 (by decide) (Bn.small (by decide) (by decide) (by decide)) (by decide), .int my, rfl, my, 1000033, rfl, rfl, divX 64 (by decide) (Bn.small (by decide) (by decide) (by decide)) (by decide), _, _, rfl, rfl, .int n, rfl, _, n, rfl, rfl, n0, ?_⟩
    exact hq _ _ _ _ F (hp _ (Int.emod_nonneg _ (by omega)) (Int.emod_lt_of_pos _ n0)) (draw_out (x := x) (y := y) (z := z + 1) tk e hF hH ⟨x0, x1, y0, y1, by omega, by omega⟩)
end
def b__law_pick : DS :=
  (dRet (dIx (dVar 1) (dCall 2 fs__law_draw (dCons (dVar 0) (dCons (dCB cLen (dCons (dVar 1) dNil)) dNil)))))
theorem atI_mem {α : Type} {xs : List α} {k : Int} (h0 : 0 ≤ k) (h : k < xs.length) : ∃ z ∈ xs, atI xs k = some z := by
  unfold atI ixN
  rw [if_pos h0, if_pos h]
  have hk : k.toNat < xs.length := by omega
  exact ⟨xs[k.toNat], List.getElem_mem hk, List.getElem?_eq_getElem hk⟩
def fs__law_pick : FSp := fun rs fu post => ∃ (xs : List Da) (m : Nat), rs = [.src, .val (.list xs)] ∧ fu = some (m + 1) ∧ 0 < xs.length ∧ xs.length < 1000000 ∧ ∀ v ∈ xs, post (.val v) (some m)
theorem p__law_pick (rs : List Rv) (fu : Option Nat) (post : Rr → Option Nat → Prop) (hl : rs.length = 2) (h : fs__law_pick rs fu post) : b__law_pick ⟨fun g => post (.val .none) g.fu, fun r g => post r g.fu, fun _ => False, fun _ => False⟩ (ent N__law_pick rs fu) := by
  obtain ⟨xs, m, rfl, rfl, h0, h1, h⟩ := h
  simp only [↓dSeq,↓dAsg,↓dSetL,↓dNext,↓dIfS,↓dRet,↓dRetL,↓dDrop,↓dNever,↓dAug,↓dPar,↓dParL,↓dApp,↓dVar,↓dC,↓dBin,↓fI,↓fI0,↓fAdd,↓fEq,↓fNe,↓fIn,↓dTest,↓dAndT,↓dOrT,↓dNotT,↓dAndV,↓dOrV,↓dNotV,↓dIf,↓dIsN,↓dChain,↓dNil,↓dCons,↓dTup,↓dLst,↓dFz,↓valsD,↓dIx,↓dCall,↓dCallL,↓hasSrc,↓rrv,↓dN,↓dT,↓dTn,↓dTc,↓rsv,↓Gs.set,↓dFor,↓dItems,↓dRange1,↓dLc,↓dCB,↓cLen,↓cAll,↓cTuple,↓cInt1,↓cInt2,↓dIsi,↓dSetS,↓oSub,↓oAddI,↓oMul,↓oDiv,↓oMod,↓oShl,↓oPow,↓oLt,↓oLe,↓oGt,↓oGe,↓oAbs,↓oMin,↓cMinL,↓cSortedD,↓dSl,↓oNo,↓oSo,↓dBy,↓dD0,↓cLZ,↓dEnum,↓fMulT,↓cReprX,↓dRaise,↓dRaise0,↓dStop,↓dDropX,↓dAsgX,↓dTup2X,↓dCallX,↓dXval,↓dTry,↓dHand,↓dAs,↓gAs,↓Gs.unset,↓rtN,↓dLam,↓dAct,↓lamF,↓gLam,↓plainO,↓Z.isNon,↓dIfT,b__law_pick,fs__law_draw,ent,svOf,List.map_cons,List.map_nil,List.cons_append,List.nil_append,List.append_nil,List.replicate,List.length_cons,List.length_nil,List.getElem?_cons_zero,List.getElem?_cons_succ,List.getElem?_nil,List.set_cons_zero,List.set_cons_succ,Option.map_some,Option.map_none,Option.isNone_some,Option.isNone_none,forall_const,true_implies,false_implies,and_true,true_and,Bool.true_eq_false,Bool.false_eq_true,reduceCtorEq,noOwn,wipeS,hide,fuN_self,lcD,dYes,Nat.zero_add,Nat.reduceAdd,Nat.reduceLeDiff,Nat.reduceSub,atI_0,atI_1,atI_2,atI_3,atI_4,atI_5,Int.one_mul,eqv_ii,eqv_ss,eqv_num,shaped_int,shaped_num,shaped_none,shaped_ru,flat_str,flat_int,flat_none,List.all_cons,List.all_nil,Bool.and_true,decide_eq_true_eq,decide_eq_false_iff_not,Bool.not_eq_true',Bool.not_eq_false',Decidable.not_not,↓reduceIte,Bool.false_eq_true,Int.reduceLT,eqv_strs,pick_0,pick_01,pick_10,pick_012,pick_021,pick_102,pick_120,pick_201,pick_210]
  refine ⟨_, m, rfl, rfl, by omega, Bn.small (by omega) (by omega) (by decide), fun i i0 i1 => ?_⟩
  obtain ⟨z, hz, ez⟩ := atI_mem (xs := xs) i0 i1
  rw [ez]
  exact h z hz
section
variable {P : Program} {w : World} {K : Fg} {mg : Str → Option Value} {base : Heap}
theorem d__law_pick (T : Tx w K mg) {cdv : Value} {A : Around} {outer : List Env} {s : Shared} {H : Hp} {E : XK} (hr : Room 1 (A.deeper (envOfC "_law_pick" (defScope st__law_pick) s.heap.objs.size T.f__law_pick cdv))) (hgd : (A.deeper (envOfC "_law_pick" (defScope st__law_pick) s.heap.objs.size T.f__law_pick cdv)).guards = some []) :
    PSs (cxOf CX0 P w K mg base N__law_pick "_law_pick" (defScope st__law_pick) T.f__law_pick cdv A outer s H E).nox (defBody st__law_pick) (upS K W0 b__law_pick) :=
  (ss_one (s_ret (e_ix (e_var 1 (pv 1)) (e_call (ok__law_draw T) (hr.mono (by decide)) hgd (by rfl) T.g__law_draw T.F__law_draw.kp T.b__law_draw pass0 (a_cons (e_var 0 (pv 0)) (a_cons (e_len (by rfl) T.n_len (a_cons (e_var 1 (pv 1)) a_nil)) a_nil))))))
theorem ok__law_pick (T : Tx w K mg) : Fn P w K mg base CX0 2 T.f__law_pick T.fd__law_pick ["_law_source_here", "_law_some"] (lift K 2 fs__law_pick) := fn_data T.F__law_pick sc__law_pick b__law_pick (fun _ _ _ _ _ _ hr hgd => d__law_pick T hr hgd) p__law_pick
end
def b__law_rule : DS :=
  (dRet (dCall 2 fs__law_pick (dCons (dVar 0) (dCons (dFz (dLst (dCons (dC (.str "down")) (dCons (dC (.str "half_down")) (dCons (dC (.str "half_even")) (dCons (dC (.str "half_up")) (dCons (dC (.str "odd")) (dCons (dC (.str "up")) dNil)))))))) dNil))))
def ruD : List Da := [.str "down", .str "half_down", .str "half_even", .str "half_up", .str "odd", .str "up"]
theorem ru_memD {x : Da} (h : x ∈ ruD) : ∃ r : Ru, x = .str r.s := by
  simp only [ruD, List.mem_cons, List.not_mem_nil, or_false] at h
  rcases h with rfl | rfl | rfl | rfl | rfl | rfl
  · exact ⟨.dn, rfl⟩
  · exact ⟨.hd, rfl⟩
  · exact ⟨.he, rfl⟩
  · exact ⟨.hu, rfl⟩
  · exact ⟨.od, rfl⟩
  · exact ⟨.up, rfl⟩
def fs__law_rule : FSp := fun rs fu post => ∃ m : Nat, rs = [.src] ∧ fu = some (m + 1) ∧ ∀ r : Ru, post (.val (.str r.s)) (some m)
theorem p__law_rule (rs : List Rv) (fu : Option Nat) (post : Rr → Option Nat → Prop) (hl : rs.length = 1) (h : fs__law_rule rs fu post) : b__law_rule ⟨fun g => post (.val .none) g.fu, fun r g => post r g.fu, fun _ => False, fun _ => False⟩ (ent N__law_rule rs fu) := by
  obtain ⟨m, rfl, rfl, h⟩ := h
  simp only [↓dSeq,↓dAsg,↓dSetL,↓dNext,↓dIfS,↓dRet,↓dRetL,↓dDrop,↓dNever,↓dAug,↓dPar,↓dParL,↓dApp,↓dVar,↓dC,↓dBin,↓fI,↓fI0,↓fAdd,↓fEq,↓fNe,↓fIn,↓dTest,↓dAndT,↓dOrT,↓dNotT,↓dAndV,↓dOrV,↓dNotV,↓dIf,↓dIsN,↓dChain,↓dNil,↓dCons,↓dTup,↓dLst,↓dFz,↓valsD,↓dIx,↓dCall,↓dCallL,↓hasSrc,↓rrv,↓dN,↓dT,↓dTn,↓dTc,↓rsv,↓Gs.set,↓dFor,↓dItems,↓dRange1,↓dLc,↓dCB,↓cLen,↓cAll,↓cTuple,↓cInt1,↓cInt2,↓dIsi,↓dSetS,↓oSub,↓oAddI,↓oMul,↓oDiv,↓oMod,↓oShl,↓oPow,↓oLt,↓oLe,↓oGt,↓oGe,↓oAbs,↓oMin,↓cMinL,↓cSortedD,↓dSl,↓oNo,↓oSo,↓dBy,↓dD0,↓cLZ,↓dEnum,↓fMulT,↓cReprX,↓dRaise,↓dRaise0,↓dStop,↓dDropX,↓dAsgX,↓dTup2X,↓dCallX,↓dXval,↓dTry,↓dHand,↓dAs,↓gAs,↓Gs.unset,↓rtN,↓dLam,↓dAct,↓lamF,↓gLam,↓plainO,↓Z.isNon,↓dIfT,b__law_rule,fs__law_pick,ent,svOf,List.map_cons,List.map_nil,List.cons_append,List.nil_append,List.append_nil,List.replicate,List.length_cons,List.length_nil,List.getElem?_cons_zero,List.getElem?_cons_succ,List.getElem?_nil,List.set_cons_zero,List.set_cons_succ,Option.map_some,Option.map_none,Option.isNone_some,Option.isNone_none,forall_const,true_implies,false_implies,and_true,true_and,Bool.true_eq_false,Bool.false_eq_true,reduceCtorEq,noOwn,wipeS,hide,fuN_self,lcD,dYes,Nat.zero_add,Nat.reduceAdd,Nat.reduceLeDiff,Nat.reduceSub,atI_0,atI_1,atI_2,atI_3,atI_4,atI_5,Int.one_mul,eqv_ii,eqv_ss,eqv_num,shaped_int,shaped_num,shaped_none,shaped_ru,flat_str,flat_int,flat_none,List.all_cons,List.all_nil,Bool.and_true,decide_eq_true_eq,decide_eq_false_iff_not,Bool.not_eq_true',Bool.not_eq_false',Decidable.not_not,↓reduceIte,Bool.false_eq_true,Int.reduceLT,eqv_strs,pick_0,pick_01,pick_10,pick_012,pick_021,pick_102,pick_120,pick_201,pick_210]
  refine ⟨_, m, rfl, rfl, by show 0 < 6; decide, by show 6 < 1000000; decide, fun v hv => ?_⟩
  obtain ⟨r, rfl⟩ := ru_memD hv
  exact h r
section
variable {P : Program} {w : World} {K : Fg} {mg : Str → Option Value} {base : Heap}
theorem d__law_rule (T : Tx w K mg) {cdv : Value} {A : Around} {outer : List Env} {s : Shared} {H : Hp} {E : XK} (hr : Room 2 (A.deeper (envOfC "_law_rule" (defScope st__law_rule) s.heap.objs.size T.f__law_rule cdv))) (hgd : (A.deeper (envOfC "_law_rule" (defScope st__law_rule) s.heap.objs.size T.f__law_rule cdv)).guards = some []) :
    PSs (cxOf CX0 P w K mg base N__law_rule "_law_rule" (defScope st__law_rule) T.f__law_rule cdv A outer s H E).nox (defBody st__law_rule) (upS K W0 b__law_rule) :=
  (ss_one (s_ret (e_call (ok__law_pick T) (hr.mono (by decide)) hgd (by rfl) T.g__law_pick T.F__law_pick.kp T.b__law_pick pass0 (a_cons (e_var 0 (pv 0)) (a_cons (e_fz (e_lstL (a_cons e_str (a_cons e_str (a_cons e_str (a_cons e_str (a_cons e_str (a_cons e_str a_nil)))))))) a_nil)))))
theorem ok__law_rule (T : Tx w K mg) : Fn P w K mg base CX0 3 T.f__law_rule T.fd__law_rule ["_law_source_here"] (lift K 1 fs__law_rule) := fn_data T.F__law_rule sc__law_rule b__law_rule (fun _ _ _ _ _ _ hr hgd => d__law_rule T hr hgd) p__law_rule
end
def b__law_chain : DS :=
  (dSeq (dSetL 4 (dLst (dCons (dTup (dCons (dVar 1) (dCons (dCall 1 fs__law_rule (dCons (dVar 0) dNil)) dNil))) dNil)))
  (dSeq (dFor (dRange1 (dCall 2 fs__law_draw (dCons (dVar 0) (dCons (dVar 2) dNil)))) (dN 5)
    (dApp 4 (dTup (dCons (dBin fAdd (dBin fAdd (dVar 1) (dC (.int 1))) (dCall 2 fs__law_draw (dCons (dVar 0) (dCons (dVar 3) dNil)))) (dCons (dCall 1 fs__law_rule (dCons (dVar 0) dNil)) dNil)))))
  (dSeq (dIfS (dTest (dBin oGt (dCall 2 fs__law_draw (dCons (dVar 0) (dCons (dC (.int 4)) dNil))) (dC (.int 0))))
    (dSeq (dAsg (dCB cSortedD (dCons (dFz (dLc [7, 8] (dItems (dVar 4)) (dT 2 (dTc (dN 7) (dTc (dN 8) dTn))) dYes (dTup (dCons (dBin oSub (dC (.int 0)) (dVar 7)) (dCons (dVar 8) dNil))))) dNil)) (dN 6))
  (dRet (dCB cTuple (dCons (dFz (dLc [7, 8] (dItems (dVar 6)) (dT 2 (dTc (dN 7) (dTc (dN 8) dTn))) dYes (dTup (dCons (dBin oSub (dC (.int 0)) (dVar 7)) (dCons (dVar 8) dNil))))) dNil))))
    dNext)
  (dRet (dCB cTuple (dCons (dBin fAdd (dSl (dVar 4) (oSo (dC (.int 1))) oNo) (dSl (dVar 4) oNo (oSo (dC (.int 1))))) dNil))))))
/-- what a drawn chain is: its least width is last -/
structure Drc (last far most : Int) (c : List (Int × Ru)) : Prop where
  r : ∀ s ∈ c, last ≤ s.1 ∧ s.1 ≤ last + far
  l : ∃ s ∈ c, s.1 = last
  n : (c.length : Int) ≤ most
theorem Drc.chn {last far most : Int} {c : List (Int × Ru)} (h : Drc last far most c) (h1 : 1 ≤ last) (h2 : last + far ≤ 100) (h3 : most ≤ 12) : Chn1 c := by
  obtain ⟨s, hs, _⟩ := h.l
  have := h.n
  refine ⟨fun e => ?_, by omega, fun t ht => by have := h.r t ht; omega⟩
  rw [e] at hs
  exact absurd hs (by simp)
/-- its last step is the narrowest -/
def EndW (last : Int) (c : List (Int × Ru)) : Prop := ∃ (c0 : List (Int × Ru)) (r : Ru), c = c0 ++ [(last, r)]
theorem Drc.perm {last far most : Int} {c c' : List (Int × Ru)} (h : Drc last far most c) (h1 : ∀ s ∈ c', s ∈ c) (h2 : ∀ s ∈ c, s ∈ c') (h3 : c'.length = c.length) : Drc last far most c' := by
  obtain ⟨s, hs, e⟩ := h.l
  have := h.n
  exact ⟨fun t ht => h.r t (h1 t ht), ⟨s, h2 s hs, e⟩, by omega⟩
def ngD (s : Int × Ru) : Da := .tuple [.int (0 - s.1), .str s.2.s]
theorem ngD_inj {s s' : Int × Ru} (h : ngD s = ngD s') : s = s' := by
  obtain ⟨w, r⟩ := s
  obtain ⟨w', r'⟩ := s'
  simp only [ngD, PyData.tuple.injEq, List.cons.injEq, PyData.int.injEq, PyData.str.injEq, and_true] at h
  have e : stD (w, r) = stD (w', r') := by
    simp only [stD, PyData.tuple.injEq, List.cons.injEq, PyData.int.injEq, PyData.str.injEq, and_true]
    exact ⟨by omega, h.2⟩
  exact stD_inj e
theorem from_perm {f : Int × Ru → Da} {c : List (Int × Ru)} : ∀ {ds : List Da}, (∀ d ∈ ds, d ∈ c.map f) → ∃ c' : List (Int × Ru), ds = c'.map f ∧ ∀ s ∈ c', s ∈ c
  | [], _ => ⟨[], rfl, fun s hs => absurd hs (by simp)⟩
  | d :: ds, h => by
    obtain ⟨c', rfl, h2⟩ := from_perm (ds := ds) fun e he => h e (List.mem_cons_of_mem _ he)
    obtain ⟨s, hs, rfl⟩ := List.mem_map.mp (h d List.mem_cons_self)
    refine ⟨s :: c', rfl, fun t ht => ?_⟩
    rcases List.mem_cons.mp ht with rfl | ht
    · exact hs
    · exact h2 t ht
theorem cut_tl {ds : List Da} (h : 1 ≤ ds.length) : Z.cutD ds (some 1) none = ds.drop 1 := by
  unfold Z.cutD
  have e1 : HT.sIx ds.length 0 (some 1) = 1 := by
    show (if (1 : Int) < 0 then ((1 : Int) + (ds.length : Int)).toNat else min (1 : Int).toNat ds.length) = 1
    rw [if_neg (by decide)]
    simp
    omega
  rw [e1, HT.sIx_none, List.take_of_length_le (by rw [List.length_drop]; omega)]
theorem cut_hd {ds : List Da} (h : 1 ≤ ds.length) : Z.cutD ds none (some 1) = ds.take 1 := by
  unfold Z.cutD
  have e1 : HT.sIx ds.length ds.length (some 1) = 1 := by
    show (if (1 : Int) < 0 then ((1 : Int) + (ds.length : Int)).toNat else min (1 : Int).toNat ds.length) = 1
    rw [if_neg (by decide)]
    simp
    omega
  rw [e1, HT.sIx_none]
  rfl
def fs__law_chain : FSp := fun rs fu post => ∃ (last most far : Int) (m : Nat), rs = [.src, .val (.int last), .val (.int most), .val (.int far)] ∧ fu = some m ∧ 1 ≤ last ∧ 1 ≤ most ∧ most ≤ 12 ∧ 1 ≤ far ∧ last + far ≤ 100 ∧ 30 ≤ m ∧
  ∀ (c : List (Int × Ru)) (m' : Nat), m ≤ m' + 30 → Drc last far most c → EndW last c → post (.val (chD c)) (some m')
def lcF : DS := (dFor (dRange1 (dCall 2 fs__law_draw (dCons (dVar 0) (dCons (dVar 2) dNil)))) (dN 5)
    (dApp 4 (dTup (dCons (dBin fAdd (dBin fAdd (dVar 1) (dC (.int 1))) (dCall 2 fs__law_draw (dCons (dVar 0) (dCons (dVar 3) dNil)))) (dCons (dCall 1 fs__law_rule (dCons (dVar 0) dNil)) dNil)))))
def lcE : DS := (dSeq (dIfS (dTest (dBin oGt (dCall 2 fs__law_draw (dCons (dVar 0) (dCons (dC (.int 4)) dNil))) (dC (.int 0))))
    (dSeq (dAsg (dCB cSortedD (dCons (dFz (dLc [7, 8] (dItems (dVar 4)) (dT 2 (dTc (dN 7) (dTc (dN 8) dTn))) dYes (dTup (dCons (dBin oSub (dC (.int 0)) (dVar 7)) (dCons (dVar 8) dNil))))) dNil)) (dN 6))
  (dRet (dCB cTuple (dCons (dFz (dLc [7, 8] (dItems (dVar 6)) (dT 2 (dTc (dN 7) (dTc (dN 8) dTn))) dYes (dTup (dCons (dBin oSub (dC (.int 0)) (dVar 7)) (dCons (dVar 8) dNil))))) dNil))))
    dNext)
  (dRet (dCB cTuple (dCons (dBin fAdd (dSl (dVar 4) (oSo (dC (.int 1))) oNo) (dSl (dVar 4) oNo (oSo (dC (.int 1))))) dNil))))
theorem end_sorted {last far most : Int} {c : List (Int × Ru)} (hc : Drc last far most c) (pw : (c.map ngD).Pairwise (fun a b => PySem.W.dataLe false id a b = true)) : EndW last c := by
  obtain ⟨s, hs, e⟩ := hc.l
  have ne : c ≠ [] := fun z => by rw [z] at hs; exact absurd hs (by simp)
  have sp : c = c.dropLast ++ [c.getLast ne] := (List.dropLast_concat_getLast ne).symm
  generalize c.dropLast = c0 at sp
  generalize c.getLast ne = z at sp
  have z1 := hc.r z (by rw [sp]; simp)
  have z2 : z.1 ≤ s.1 := by
    rw [sp] at hs
    rcases List.mem_append.mp hs with q | q
    · rw [sp, List.map_append, List.pairwise_append] at pw
      have := le_fst (pw.2.2 (ngD s) (List.mem_map_of_mem q) (ngD z) (by simp))
      omega
    · rw [List.mem_singleton] at q
      rw [q]
      exact Int.le_refl _
  have : z = (last, z.2) := Prod.ext (by show z.1 = last; omega) rfl
  rw [this] at sp
  exact ⟨c0, z.2, sp⟩
def negD : Da → Da
  | .tuple [.int i, x] => .tuple [.int (0 - i), x]
  | d => d
theorem p_lcE {D : DEnds} {last most far : Int} {m : Nat} {t f w r : Option Sv} {c : List (Int × Ru)} (hc : Drc last far most c) (hl : c.length ≤ 100)
    (hh : ∃ (r0 : Ru) (t : List (Int × Ru)), c = (last, r0) :: t)
    (h : ∀ (c : List (Int × Ru)) (g : Gs), g.fu = some m → Drc last far most c → EndW last c → D.rt (.val (chD c)) g) :
    lcE D ⟨[some .src, some (.val (.int last)), some (.val (.int most)), some (.val (.int far)), some (.own (c.map stD)), t, f, w, r], some (m + 1), false⟩ := by
  have c1 : 1 ≤ (c.map stD).length := by
    obtain ⟨s, hs, _⟩ := hc.l
    rw [List.length_map]
    exact List.length_pos_iff.mpr (fun e => absurd hs (by rw [e]; simp))
  simp only [↓dSeq,↓dAsg,↓dSetL,↓dNext,↓dIfS,↓dRet,↓dRetL,↓dDrop,↓dNever,↓dAug,↓dPar,↓dParL,↓dApp,↓dVar,↓dC,↓dBin,↓fI,↓fI0,↓fAdd,↓fEq,↓fNe,↓fIn,↓dTest,↓dAndT,↓dOrT,↓dNotT,↓dAndV,↓dOrV,↓dNotV,↓dIf,↓dIsN,↓dChain,↓dNil,↓dCons,↓dTup,↓dLst,↓dFz,↓valsD,↓dIx,↓dCall,↓dCallL,↓hasSrc,↓rrv,↓dN,↓dT,↓dTn,↓dTc,↓rsv,↓Gs.set,↓dFor,↓dItems,↓dRange1,↓dLc,↓dCB,↓cLen,↓cAll,↓cTuple,↓cInt1,↓cInt2,↓dIsi,↓dSetS,↓oSub,↓oAddI,↓oMul,↓oDiv,↓oMod,↓oShl,↓oPow,↓oLt,↓oLe,↓oGt,↓oGe,↓oAbs,↓oMin,↓cMinL,↓cSortedD,↓dSl,↓oNo,↓oSo,↓dBy,↓dD0,↓cLZ,↓dEnum,↓fMulT,↓cReprX,↓dRaise,↓dRaise0,↓dStop,↓dDropX,↓dAsgX,↓dTup2X,↓dCallX,↓dXval,↓dTry,↓dHand,↓dAs,↓gAs,↓Gs.unset,↓rtN,↓dLam,↓dAct,↓lamF,↓gLam,↓plainO,↓Z.isNon,↓dIfT,lcE,fs__law_draw,ent,svOf,List.map_cons,List.map_nil,List.cons_append,List.nil_append,List.append_nil,List.replicate,List.length_cons,List.length_nil,List.getElem?_cons_zero,List.getElem?_cons_succ,List.getElem?_nil,List.set_cons_zero,List.set_cons_succ,Option.map_some,Option.map_none,Option.isNone_some,Option.isNone_none,forall_const,true_implies,false_implies,and_true,true_and,Bool.true_eq_false,Bool.false_eq_true,reduceCtorEq,noOwn,wipeS,hide,fuN_self,lcD,dYes,Nat.zero_add,Nat.reduceAdd,Nat.reduceLeDiff,Nat.reduceSub,atI_0,atI_1,atI_2,atI_3,atI_4,atI_5,Int.one_mul,eqv_ii,eqv_ss,eqv_num,shaped_int,shaped_num,shaped_none,shaped_ru,flat_str,flat_int,flat_none,List.all_cons,List.all_nil,Bool.and_true,decide_eq_true_eq,decide_eq_false_iff_not,Bool.not_eq_true',Bool.not_eq_false',Decidable.not_not,↓reduceIte,Bool.false_eq_true,Int.reduceLT,eqv_strs,pick_0,pick_01,pick_10,pick_012,pick_021,pick_102,pick_120,pick_201,pick_210]
  refine ⟨_, m, rfl, rfl, by decide, Bn.small (by decide) (by decide) (by decide), fun i i0 i1 => ⟨fun _ => ?_, fun _ => ?_⟩⟩
  · refine lc_mapT negD (fun x hx R N hR => ?_) (by simp; omega) ?_
    · obtain ⟨s, hs, rfl⟩ := List.mem_map.mp hx
      unfold stD at hR ⊢
      simp only [↓dSeq,↓dAsg,↓dSetL,↓dNext,↓dIfS,↓dRet,↓dRetL,↓dDrop,↓dNever,↓dAug,↓dPar,↓dParL,↓dApp,↓dVar,↓dC,↓dBin,↓fI,↓fI0,↓fAdd,↓fEq,↓fNe,↓fIn,↓dTest,↓dAndT,↓dOrT,↓dNotT,↓dAndV,↓dOrV,↓dNotV,↓dIf,↓dIsN,↓dChain,↓dNil,↓dCons,↓dTup,↓dLst,↓dFz,↓valsD,↓dIx,↓dCall,↓dCallL,↓hasSrc,↓rrv,↓dN,↓dT,↓dTn,↓dTc,↓rsv,↓Gs.set,↓dFor,↓dItems,↓dRange1,↓dLc,↓dCB,↓cLen,↓cAll,↓cTuple,↓cInt1,↓cInt2,↓dIsi,↓dSetS,↓oSub,↓oAddI,↓oMul,↓oDiv,↓oMod,↓oShl,↓oPow,↓oLt,↓oLe,↓oGt,↓oGe,↓oAbs,↓oMin,↓cMinL,↓cSortedD,↓dSl,↓oNo,↓oSo,↓dBy,↓dD0,↓cLZ,↓dEnum,↓fMulT,↓cReprX,↓dRaise,↓dRaise0,↓dStop,↓dDropX,↓dAsgX,↓dTup2X,↓dCallX,↓dXval,↓dTry,↓dHand,↓dAs,↓gAs,↓Gs.unset,↓rtN,↓dLam,↓dAct,↓lamF,↓gLam,↓plainO,↓Z.isNon,↓dIfT,ent,svOf,List.map_cons,List.map_nil,List.cons_append,List.nil_append,List.append_nil,List.replicate,List.length_cons,List.length_nil,List.getElem?_cons_zero,List.getElem?_cons_succ,List.getElem?_nil,List.set_cons_zero,List.set_cons_succ,Option.map_some,Option.map_none,Option.isNone_some,Option.isNone_none,forall_const,true_implies,false_implies,and_true,true_and,Bool.true_eq_false,Bool.false_eq_true,reduceCtorEq,noOwn,wipeS,hide,fuN_self,lcD,dYes,Nat.zero_add,Nat.reduceAdd,Nat.reduceLeDiff,Nat.reduceSub,atI_0,atI_1,atI_2,atI_3,atI_4,atI_5,Int.one_mul,eqv_ii,eqv_ss,eqv_num,shaped_int,shaped_num,shaped_none,shaped_ru,flat_str,flat_int,flat_none,List.all_cons,List.all_nil,Bool.and_true,decide_eq_true_eq,decide_eq_false_iff_not,Bool.not_eq_true',Bool.not_eq_false',Decidable.not_not,↓reduceIte,Bool.false_eq_true,Int.reduceLT,eqv_strs,pick_0,pick_01,pick_10,pick_012,pick_021,pick_102,pick_120,pick_201,pick_210]
      exact hR _ rfl
    · have e : List.map negD (c.map stD) = c.map ngD := by
        rw [List.map_map]
        rfl
      rw [List.nil_append, e]
      obtain ⟨a1, a2, a3⟩ := pairs_sortable (ds := c.map ngD) fun d hd => by
        obtain ⟨s, hs, rfl⟩ := List.mem_map.mp hd
        exact ⟨_, _, rfl, ru_ok _⟩
      refine ⟨a1, a2, a3, fun ds' pm pw => ?_⟩
      obtain ⟨c', rfl, hm⟩ := from_perm fun d hd => pm.mem_iff.mp hd
      have hlen : c'.length = c.length := by
        have := pm.length_eq
        rw [List.length_map, List.length_map] at this
        exact this
      have hm' : ∀ s ∈ c, s ∈ c' := fun s hs => by
        obtain ⟨s', hs', e⟩ := List.mem_map.mp (pm.mem_iff.mpr (List.mem_map_of_mem (f := ngD) hs))
        rw [← ngD_inj e]
        exact hs'
      try simp only [↓dSeq,↓dAsg,↓dSetL,↓dNext,↓dIfS,↓dRet,↓dRetL,↓dDrop,↓dNever,↓dAug,↓dPar,↓dParL,↓dApp,↓dVar,↓dC,↓dBin,↓fI,↓fI0,↓fAdd,↓fEq,↓fNe,↓fIn,↓dTest,↓dAndT,↓dOrT,↓dNotT,↓dAndV,↓dOrV,↓dNotV,↓dIf,↓dIsN,↓dChain,↓dNil,↓dCons,↓dTup,↓dLst,↓dFz,↓valsD,↓dIx,↓dCall,↓dCallL,↓hasSrc,↓rrv,↓dN,↓dT,↓dTn,↓dTc,↓rsv,↓Gs.set,↓dFor,↓dItems,↓dRange1,↓dLc,↓dCB,↓cLen,↓cAll,↓cTuple,↓cInt1,↓cInt2,↓dIsi,↓dSetS,↓oSub,↓oAddI,↓oMul,↓oDiv,↓oMod,↓oShl,↓oPow,↓oLt,↓oLe,↓oGt,↓oGe,↓oAbs,↓oMin,↓cMinL,↓cSortedD,↓dSl,↓oNo,↓oSo,↓dBy,↓dD0,↓cLZ,↓dEnum,↓fMulT,↓cReprX,↓dRaise,↓dRaise0,↓dStop,↓dDropX,↓dAsgX,↓dTup2X,↓dCallX,↓dXval,↓dTry,↓dHand,↓dAs,↓gAs,↓Gs.unset,↓rtN,↓dLam,↓dAct,↓lamF,↓gLam,↓plainO,↓Z.isNon,↓dIfT,ent,svOf,List.map_cons,List.map_nil,List.cons_append,List.nil_append,List.append_nil,List.replicate,List.length_cons,List.length_nil,List.getElem?_cons_zero,List.getElem?_cons_succ,List.getElem?_nil,List.set_cons_zero,List.set_cons_succ,Option.map_some,Option.map_none,Option.isNone_some,Option.isNone_none,forall_const,true_implies,false_implies,and_true,true_and,Bool.true_eq_false,Bool.false_eq_true,reduceCtorEq,noOwn,wipeS,hide,fuN_self,lcD,dYes,Nat.zero_add,Nat.reduceAdd,Nat.reduceLeDiff,Nat.reduceSub,atI_0,atI_1,atI_2,atI_3,atI_4,atI_5,Int.one_mul,eqv_ii,eqv_ss,eqv_num,shaped_int,shaped_num,shaped_none,shaped_ru,flat_str,flat_int,flat_none,List.all_cons,List.all_nil,Bool.and_true,decide_eq_true_eq,decide_eq_false_iff_not,Bool.not_eq_true',Bool.not_eq_false',Decidable.not_not,↓reduceIte,Bool.false_eq_true,Int.reduceLT,eqv_strs,pick_0,pick_01,pick_10,pick_012,pick_021,pick_102,pick_120,pick_201,pick_210]
      refine lc_mapT negD (fun x hx R N hR => ?_) (by simp; omega) ?_
      · obtain ⟨s, hs, rfl⟩ := List.mem_map.mp hx
        unfold ngD at hR ⊢
        simp only [↓dSeq,↓dAsg,↓dSetL,↓dNext,↓dIfS,↓dRet,↓dRetL,↓dDrop,↓dNever,↓dAug,↓dPar,↓dParL,↓dApp,↓dVar,↓dC,↓dBin,↓fI,↓fI0,↓fAdd,↓fEq,↓fNe,↓fIn,↓dTest,↓dAndT,↓dOrT,↓dNotT,↓dAndV,↓dOrV,↓dNotV,↓dIf,↓dIsN,↓dChain,↓dNil,↓dCons,↓dTup,↓dLst,↓dFz,↓valsD,↓dIx,↓dCall,↓dCallL,↓hasSrc,↓rrv,↓dN,↓dT,↓dTn,↓dTc,↓rsv,↓Gs.set,↓dFor,↓dItems,↓dRange1,↓dLc,↓dCB,↓cLen,↓cAll,↓cTuple,↓cInt1,↓cInt2,↓dIsi,↓dSetS,↓oSub,↓oAddI,↓oMul,↓oDiv,↓oMod,↓oShl,↓oPow,↓oLt,↓oLe,↓oGt,↓oGe,↓oAbs,↓oMin,↓cMinL,↓cSortedD,↓dSl,↓oNo,↓oSo,↓dBy,↓dD0,↓cLZ,↓dEnum,↓fMulT,↓cReprX,↓dRaise,↓dRaise0,↓dStop,↓dDropX,↓dAsgX,↓dTup2X,↓dCallX,↓dXval,↓dTry,↓dHand,↓dAs,↓gAs,↓Gs.unset,↓rtN,↓dLam,↓dAct,↓lamF,↓gLam,↓plainO,↓Z.isNon,↓dIfT,ent,svOf,List.map_cons,List.map_nil,List.cons_append,List.nil_append,List.append_nil,List.replicate,List.length_cons,List.length_nil,List.getElem?_cons_zero,List.getElem?_cons_succ,List.getElem?_nil,List.set_cons_zero,List.set_cons_succ,Option.map_some,Option.map_none,Option.isNone_some,Option.isNone_none,forall_const,true_implies,false_implies,and_true,true_and,Bool.true_eq_false,Bool.false_eq_true,reduceCtorEq,noOwn,wipeS,hide,fuN_self,lcD,dYes,Nat.zero_add,Nat.reduceAdd,Nat.reduceLeDiff,Nat.reduceSub,atI_0,atI_1,atI_2,atI_3,atI_4,atI_5,Int.one_mul,eqv_ii,eqv_ss,eqv_num,shaped_int,shaped_num,shaped_none,shaped_ru,flat_str,flat_int,flat_none,List.all_cons,List.all_nil,Bool.and_true,decide_eq_true_eq,decide_eq_false_iff_not,Bool.not_eq_true',Bool.not_eq_false',Decidable.not_not,↓reduceIte,Bool.false_eq_true,Int.reduceLT,eqv_strs,pick_0,pick_01,pick_10,pick_012,pick_021,pick_102,pick_120,pick_201,pick_210]
        exact hR _ rfl
      · have e : List.map negD (c'.map ngD) = c'.map stD := by
          rw [List.map_map]
          refine List.map_congr_left fun s hs => ?_
          show PyData.tuple [.int (0 - (0 - s.1)), _] = PyData.tuple [.int s.1, _]
          rw [show 0 - (0 - s.1) = s.1 by omega]
        rw [List.nil_append, e]
        exact h c' _ rfl (hc.perm hm hm' hlen) (end_sorted (hc.perm hm hm' hlen) pw)
  · rw [cut_tl c1, cut_hd c1, ← List.map_drop, ← List.map_take, ← List.map_append]
    refine ⟨by simp only [List.length_map, List.length_append, List.length_drop, List.length_take, sizeLine_eq]; omega, ?_⟩
    refine h (c.drop 1 ++ c.take 1) _ rfl (hc.perm (fun s hs => ?_) (fun s hs => ?_) ?_) (by obtain ⟨r0, t, rfl⟩ := hh; exact ⟨t, r0, rfl⟩)
    · rcases List.mem_append.mp hs with q | q
      · exact List.mem_of_mem_drop q
      · exact List.mem_of_mem_take q
    · rw [← List.take_append_drop 1 c] at hs
      rcases List.mem_append.mp hs with q | q
      · exact List.mem_append_right _ q
      · exact List.mem_append_left _ q
    · rw [List.length_append, List.length_drop, List.length_take]
      rw [List.length_map] at c1
      omega
theorem p__law_chain (rs : List Rv) (fu : Option Nat) (post : Rr → Option Nat → Prop) (hl : rs.length = 4) (h : fs__law_chain rs fu post) : b__law_chain ⟨fun g => post (.val .none) g.fu, fun r g => post r g.fu, fun _ => False, fun _ => False⟩ (ent N__law_chain rs fu) := by
  obtain ⟨last, most, far, m0, rfl, rfl, h1, h2, h3, h4, h5, hm, h⟩ := h
  obtain ⟨m, rfl⟩ : ∃ m, m0 = m + 30 := ⟨m0 - 30, by omega⟩
  show dSeq _ (dSeq lcF lcE) _ _
  simp only [↓dSeq,↓dAsg,↓dSetL,↓dNext,↓dIfS,↓dRet,↓dRetL,↓dDrop,↓dNever,↓dAug,↓dPar,↓dParL,↓dApp,↓dVar,↓dC,↓dBin,↓fI,↓fI0,↓fAdd,↓fEq,↓fNe,↓fIn,↓dTest,↓dAndT,↓dOrT,↓dNotT,↓dAndV,↓dOrV,↓dNotV,↓dIf,↓dIsN,↓dChain,↓dNil,↓dCons,↓dTup,↓dLst,↓dFz,↓valsD,↓dIx,↓dCall,↓dCallL,↓hasSrc,↓rrv,↓dN,↓dT,↓dTn,↓dTc,↓rsv,↓Gs.set,↓dFor,↓dItems,↓dRange1,↓dLc,↓dCB,↓cLen,↓cAll,↓cTuple,↓cInt1,↓cInt2,↓dIsi,↓dSetS,↓oSub,↓oAddI,↓oMul,↓oDiv,↓oMod,↓oShl,↓oPow,↓oLt,↓oLe,↓oGt,↓oGe,↓oAbs,↓oMin,↓cMinL,↓cSortedD,↓dSl,↓oNo,↓oSo,↓dBy,↓dD0,↓cLZ,↓dEnum,↓fMulT,↓cReprX,↓dRaise,↓dRaise0,↓dStop,↓dDropX,↓dAsgX,↓dTup2X,↓dCallX,↓dXval,↓dTry,↓dHand,↓dAs,↓gAs,↓Gs.unset,↓rtN,↓dLam,↓dAct,↓lamF,↓gLam,↓plainO,↓Z.isNon,↓dIfT,lcF,fs__law_draw,fs__law_rule,ent,svOf,List.map_cons,List.map_nil,List.cons_append,List.nil_append,List.append_nil,List.replicate,List.length_cons,List.length_nil,List.getElem?_cons_zero,List.getElem?_cons_succ,List.getElem?_nil,List.set_cons_zero,List.set_cons_succ,Option.map_some,Option.map_none,Option.isNone_some,Option.isNone_none,forall_const,true_implies,false_implies,and_true,true_and,Bool.true_eq_false,Bool.false_eq_true,reduceCtorEq,noOwn,wipeS,hide,fuN_self,lcD,dYes,Nat.zero_add,Nat.reduceAdd,Nat.reduceLeDiff,Nat.reduceSub,atI_0,atI_1,atI_2,atI_3,atI_4,atI_5,Int.one_mul,eqv_ii,eqv_ss,eqv_num,shaped_int,shaped_num,shaped_none,shaped_ru,flat_str,flat_int,flat_none,List.all_cons,List.all_nil,Bool.and_true,decide_eq_true_eq,decide_eq_false_iff_not,Bool.not_eq_true',Bool.not_eq_false',Decidable.not_not,↓reduceIte,Bool.false_eq_true,Int.reduceLT,eqv_strs,pick_0,pick_01,pick_10,pick_012,pick_021,pick_102,pick_120,pick_201,pick_210]
  refine ⟨m + 29, rfl, fun r0 => ⟨most, m + 28, rfl, rfl, by omega, Bn.small (by omega) (by omega) (by decide), fun i i0 i1 => ⟨by omega, by omega, ?_⟩⟩⟩
  refine forD_ix (k := 0) (fun k g => ∃ (c : List (Int × Ru)) (m' : Nat) (t f w r : Option Sv), g = ⟨[some .src, some (.val (.int last)), some (.val (.int most)), some (.val (.int far)), some (.own (c.map stD)), t, f, w, r], some m', false⟩ ∧ m + 28 ≤ m' + 2 * k ∧ c.length = k + 1 ∧ (∀ s ∈ c, last ≤ s.1 ∧ s.1 ≤ last + far) ∧ (∃ s ∈ c, s.1 = last) ∧ ∃ (r0 : Ru) (t : List (Int × Ru)), c = (last, r0) :: t) (fun k x hx g hg N hN => ?_) (fun g hg => ?_) ⟨[(last, r0)], m + 28, _, _, _, _, rfl, by omega, rfl, fun s hs => ?_, ⟨(last, r0), List.mem_cons_self, rfl⟩, r0, [], rfl⟩
  · obtain ⟨c, m', t, f, w, r, rfl, q1, q2, q3, q4, q5⟩ := hg
    have hk : k < 12 := by
      have := (List.getElem?_eq_some_iff.mp hx).1
      rw [rangeD_len] at this
      omega
    obtain ⟨m1, rfl⟩ : ∃ m1, m' = m1 + 2 := ⟨m' - 2, by omega⟩
    simp only [↓dSeq,↓dAsg,↓dSetL,↓dNext,↓dIfS,↓dRet,↓dRetL,↓dDrop,↓dNever,↓dAug,↓dPar,↓dParL,↓dApp,↓dVar,↓dC,↓dBin,↓fI,↓fI0,↓fAdd,↓fEq,↓fNe,↓fIn,↓dTest,↓dAndT,↓dOrT,↓dNotT,↓dAndV,↓dOrV,↓dNotV,↓dIf,↓dIsN,↓dChain,↓dNil,↓dCons,↓dTup,↓dLst,↓dFz,↓valsD,↓dIx,↓dCall,↓dCallL,↓hasSrc,↓rrv,↓dN,↓dT,↓dTn,↓dTc,↓rsv,↓Gs.set,↓dFor,↓dItems,↓dRange1,↓dLc,↓dCB,↓cLen,↓cAll,↓cTuple,↓cInt1,↓cInt2,↓dIsi,↓dSetS,↓oSub,↓oAddI,↓oMul,↓oDiv,↓oMod,↓oShl,↓oPow,↓oLt,↓oLe,↓oGt,↓oGe,↓oAbs,↓oMin,↓cMinL,↓cSortedD,↓dSl,↓oNo,↓oSo,↓dBy,↓dD0,↓cLZ,↓dEnum,↓fMulT,↓cReprX,↓dRaise,↓dRaise0,↓dStop,↓dDropX,↓dAsgX,↓dTup2X,↓dCallX,↓dXval,↓dTry,↓dHand,↓dAs,↓gAs,↓Gs.unset,↓rtN,↓dLam,↓dAct,↓lamF,↓gLam,↓plainO,↓Z.isNon,↓dIfT,fs__law_draw,fs__law_rule,ent,svOf,List.map_cons,List.map_nil,List.cons_append,List.nil_append,List.append_nil,List.replicate,List.length_cons,List.length_nil,List.getElem?_cons_zero,List.getElem?_cons_succ,List.getElem?_nil,List.set_cons_zero,List.set_cons_succ,Option.map_some,Option.map_none,Option.isNone_some,Option.isNone_none,forall_const,true_implies,false_implies,and_true,true_and,Bool.true_eq_false,Bool.false_eq_true,reduceCtorEq,noOwn,wipeS,hide,fuN_self,lcD,dYes,Nat.zero_add,Nat.reduceAdd,Nat.reduceLeDiff,Nat.reduceSub,atI_0,atI_1,atI_2,atI_3,atI_4,atI_5,Int.one_mul,eqv_ii,eqv_ss,eqv_num,shaped_int,shaped_num,shaped_none,shaped_ru,flat_str,flat_int,flat_none,List.all_cons,List.all_nil,Bool.and_true,decide_eq_true_eq,decide_eq_false_iff_not,Bool.not_eq_true',Bool.not_eq_false',Decidable.not_not,↓reduceIte,Bool.false_eq_true,Int.reduceLT,eqv_strs,pick_0,pick_01,pick_10,pick_012,pick_021,pick_102,pick_120,pick_201,pick_210]
    refine ⟨⟨_, rfl⟩, far, m1 + 1, rfl, rfl, by omega, Bn.small (by omega) (by omega) (by decide), fun j j0 j1 => ⟨m1, rfl, fun r1 => ⟨by rw [List.length_map]; omega, ?_⟩⟩⟩
    refine hN _ ⟨c ++ [(last + 1 + j, r1)], m1, some (.val x), f, w, r, ?_, by omega, by rw [List.length_append]; simp; omega, fun s hs => ?_, ?_, ?_⟩
    · rw [List.map_append]
      rfl
    · rcases List.mem_append.mp hs with hs | hs
      · exact q3 s hs
      · rcases List.mem_cons.mp hs with rfl | hs
        · exact ⟨by show last ≤ last + 1 + j; omega, by show last + 1 + j ≤ last + far; omega⟩
        · exact absurd hs (by simp)
    · obtain ⟨s, hs, e⟩ := q4
      exact ⟨s, List.mem_append_left _ hs, e⟩
    · obtain ⟨r0, t, rfl⟩ := q5
      exact ⟨r0, _, rfl⟩
  · obtain ⟨c, m', t, f, w, r, rfl, q1, q2, q3, q4, q5⟩ := hg
    rw [rangeD_len] at q1 q2
    obtain ⟨m1, rfl⟩ : ∃ m1, m' = m1 + 1 := ⟨m' - 1, by omega⟩
    refine p_lcE ⟨q3, q4, by omega⟩ (by omega) q5 fun c' g e hc' he => ?_
    have := h c' m1 (by omega) hc' he
    rw [← e] at this
    exact this
  · rcases List.mem_cons.mp hs with rfl | hs
    · exact ⟨Int.le_refl _, by show last ≤ last + far; omega⟩
    · exact absurd hs (by simp)
section
variable {P : Program} {w : World} {K : Fg} {mg : Str → Option Value} {base : Heap}
theorem d__law_chain (T : Tx w K mg) {cdv : Value} {A : Around} {outer : List Env} {s : Shared} {H : Hp} {E : XK} (hr : Room 3 (A.deeper (envOfC "_law_chain" (defScope st__law_chain) s.heap.objs.size T.f__law_chain cdv))) (hgd : (A.deeper (envOfC "_law_chain" (defScope st__law_chain) s.heap.objs.size T.f__law_chain cdv)).guards = some []) :
    PSs (cxOf CX0 P w K mg base N__law_chain "_law_chain" (defScope st__law_chain) T.f__law_chain cdv A outer s H E).nox (defBody st__law_chain) (upS K W0 b__law_chain) :=
  (ss_cons (s_setL (i := 4) sc__law_chain.nd rfl (.inl rfl) (e_lstL (a_cons (e_tup (a_cons (e_var 1 (pv 1)) (a_cons (e_call (ok__law_rule T) (hr.mono (by decide)) hgd (by rfl) T.g__law_rule T.F__law_rule.kp T.b__law_rule pass0 (a_cons (e_var 0 (pv 0)) a_nil)) a_nil))) a_nil)))
    (ss_cons (s_for PassesOwn.never rfl (i_range1 (by rfl) T.n_range (e_call (ok__law_draw T) (hr.mono (by decide)) hgd (by rfl) T.g__law_draw T.F__law_draw.kp T.b__law_draw pass0 (a_cons (e_var 0 (pv 0)) (a_cons (e_var 2 (pv 2)) a_nil)))) (g_name (pg_name (i := 5) sc__law_chain.nd rfl (.inl rfl))) (ss_one (s_app (name := "x") (pv 4) (e_tup (a_cons (e_add (e_add (e_var 1 (pv 1)) e_int) (e_call (ok__law_draw T) (hr.mono (by decide)) hgd (by rfl) T.g__law_draw T.F__law_draw.kp T.b__law_draw pass0 (a_cons (e_var 0 (pv 0)) (a_cons (e_var 3 (pv 3)) a_nil)))) (a_cons (e_call (ok__law_rule T) (hr.mono (by decide)) hgd (by rfl) T.g__law_rule T.F__law_rule.kp T.b__law_rule pass0 (a_cons (e_var 0 (pv 0)) a_nil)) a_nil))) (fun h => pe_bm PySem.F.plainAttrs_list PySem.F.slot_list_append PySem.F.type_list_append mt_append (pv 4) h))))
    (ss_cons (s_if (t_gt (e_call (ok__law_draw T) (hr.mono (by decide)) hgd (by rfl) T.g__law_draw T.F__law_draw.kp T.b__law_draw pass0 (a_cons (e_var 0 (pv 0)) (a_cons e_int a_nil))) e_int) (ss_cons (s_set (i := 6) sc__law_chain.nd rfl (.inl rfl) (e_sortedD hr (by rfl) T.n_sorted (a_cons (e_fz (e_lc (own := [("_law_width", 7), ("_law_rule_here", 8)]) rfl sc__law_chain.nd (i_items (e_var 4 (pv 4))) (blkOk_by (own := [("_law_width", 7), ("_law_rule_here", 8)]) (N := N__law_chain) (sc := defScope st__law_chain) (by decide +kernel)) (fun _ _ _ _ _ => (gw_tup rfl rfl (gsw_cons (gw_name rfl (pg_name (i := 7) sc__law_chain.nd rfl (.inl rfl)) (by decide)) (gsw_cons (gw_name rfl (pg_name (i := 8) sc__law_chain.nd rfl (.inl rfl)) (by decide)) gsw_nil)))) (fun _ _ _ _ _ => ts_yes) (fun _ _ _ _ _ => (e_tup (a_cons (e_sub e_int (e_var 7 (pv 7))) (a_cons (e_var 8 (pv 8)) a_nil)))))) a_nil)))
    (ss_one (s_ret (e_tuple (by rfl) T.n_tuple (a_cons (e_fz (e_lc (own := [("_law_width", 7), ("_law_rule_here", 8)]) rfl sc__law_chain.nd (i_items (e_var 6 (pv 6))) (blkOk_by (own := [("_law_width", 7), ("_law_rule_here", 8)]) (N := N__law_chain) (sc := defScope st__law_chain) (by decide +kernel)) (fun _ _ _ _ _ => (gw_tup rfl rfl (gsw_cons (gw_name rfl (pg_name (i := 7) sc__law_chain.nd rfl (.inl rfl)) (by decide)) (gsw_cons (gw_name rfl (pg_name (i := 8) sc__law_chain.nd rfl (.inl rfl)) (by decide)) gsw_nil)))) (fun _ _ _ _ _ => ts_yes) (fun _ _ _ _ _ => (e_tup (a_cons (e_sub e_int (e_var 7 (pv 7))) (a_cons (e_var 8 (pv 8)) a_nil)))))) a_nil))))) ss_nil)
    (ss_one (s_ret (e_tuple (by rfl) T.n_tuple (a_cons (e_add (e_sl (e_var 4 (pv 4)) (o_some e_int) o_none) (e_sl (e_var 4 (pv 4)) o_none (o_some e_int))) a_nil)))))))
theorem ok__law_chain (T : Tx w K mg) : Fn P w K mg base CX0 4 T.f__law_chain T.fd__law_chain ["_law_source_here", "_law_last", "_law_most", "_law_far"] (lift K 4 fs__law_chain) := fn_data T.F__law_chain sc__law_chain b__law_chain (fun _ _ _ _ _ _ hr hgd => d__law_chain T hr hgd) p__law_chain
end
def b__law_is_count : DS :=
  (dRet (dAndV (dIsi "int" (dVar 0)) (dAndV (dNotV (dIsi "bool" (dVar 0))) (dBin oGe (dVar 0) (dC (.int 0))))))
def fs__law_is_count : FSp := fun rs fu post => ∃ d, rs = [.val d] ∧ post (.val (.bool (isInt d 0))) fu
theorem p__law_is_count (rs : List Rv) (fu : Option Nat) (post : Rr → Option Nat → Prop) (hl : rs.length = 1) (h : fs__law_is_count rs fu post) : b__law_is_count ⟨fun g => post (.val .none) g.fu, fun r g => post r g.fu, fun _ => False, fun _ => False⟩ (ent N__law_is_count rs fu) := by
  obtain ⟨d, rfl, h⟩ := h
  cases d <;> (simp only [↓dSeq,↓dAsg,↓dSetL,↓dNext,↓dIfS,↓dRet,↓dRetL,↓dDrop,↓dNever,↓dAug,↓dPar,↓dParL,↓dApp,↓dVar,↓dC,↓dBin,↓fI,↓fI0,↓fAdd,↓fEq,↓fNe,↓fIn,↓dTest,↓dAndT,↓dOrT,↓dNotT,↓dAndV,↓dOrV,↓dNotV,↓dIf,↓dIsN,↓dChain,↓dNil,↓dCons,↓dTup,↓dLst,↓dFz,↓valsD,↓dIx,↓dCall,↓dCallL,↓hasSrc,↓rrv,↓dN,↓dT,↓dTn,↓dTc,↓rsv,↓Gs.set,↓dFor,↓dItems,↓dRange1,↓dLc,↓dCB,↓cLen,↓cAll,↓cTuple,↓cInt1,↓cInt2,↓dIsi,↓dSetS,↓oSub,↓oAddI,↓oMul,↓oDiv,↓oMod,↓oShl,↓oPow,↓oLt,↓oLe,↓oGt,↓oGe,↓oAbs,↓oMin,↓cMinL,↓cSortedD,↓dSl,↓oNo,↓oSo,↓dBy,↓dD0,↓cLZ,↓dEnum,↓fMulT,↓cReprX,↓dRaise,↓dRaise0,↓dStop,↓dDropX,↓dAsgX,↓dTup2X,↓dCallX,↓dXval,↓dTry,↓dHand,↓dAs,↓gAs,↓Gs.unset,↓rtN,↓dLam,↓dAct,↓lamF,↓gLam,↓plainO,↓Z.isNon,↓dIfT,b__law_is_count,ent,svOf,List.map_cons,List.map_nil,List.cons_append,List.nil_append,List.append_nil,List.replicate,List.length_cons,List.length_nil,List.getElem?_cons_zero,List.getElem?_cons_succ,List.getElem?_nil,List.set_cons_zero,List.set_cons_succ,Option.map_some,Option.map_none,Option.isNone_some,Option.isNone_none,forall_const,true_implies,false_implies,and_true,true_and,Bool.true_eq_false,Bool.false_eq_true,reduceCtorEq,noOwn,wipeS,hide,fuN_self,lcD,dYes,Nat.zero_add,Nat.reduceAdd,Nat.reduceLeDiff,Nat.reduceSub,atI_0,atI_1,atI_2,atI_3,atI_4,atI_5,Int.one_mul,eqv_ii,eqv_ss,eqv_num,shaped_int,shaped_num,shaped_none,shaped_ru,flat_str,flat_int,flat_none,List.all_cons,List.all_nil,Bool.and_true,decide_eq_true_eq,decide_eq_false_iff_not,Bool.not_eq_true',Bool.not_eq_false',Decidable.not_not,↓reduceIte,Bool.false_eq_true,Int.reduceLT,eqv_strs,pick_0,pick_01,pick_10,pick_012,pick_021,pick_102,pick_120,pick_201,pick_210]; simp_all [isInt, isTy])
section
variable {P : Program} {w : World} {K : Fg} {mg : Str → Option Value} {base : Heap}
theorem d__law_is_count (T : Tx w K mg) {cdv : Value} {A : Around} {outer : List Env} {s : Shared} {H : Hp} {E : XK} (hr : Room 0 (A.deeper (envOfC "_law_is_count" (defScope st__law_is_count) s.heap.objs.size T.f__law_is_count cdv))) (hgd : (A.deeper (envOfC "_law_is_count" (defScope st__law_is_count) s.heap.objs.size T.f__law_is_count cdv)).guards = some []) :
    PSs (cxOf CX0 P w K mg base N__law_is_count "_law_is_count" (defScope st__law_is_count) T.f__law_is_count cdv A outer s H E).nox (defBody st__law_is_count) (upS K W0 b__law_is_count) :=
  (ss_one (s_ret (e_and (e_isi kit_int (by rfl) T.n_isinstance (e_var 0 (pv 0)) (c_ty (by rfl) T.n_int (by decide +kernel))) (e_and (e_not (e_isi kit_bool (by rfl) T.n_isinstance (e_var 0 (pv 0)) (c_ty (by rfl) T.n_bool (by decide +kernel)))) (e_one (e_ge (e_var 0 (pv 0)) e_int))))))
theorem ok__law_is_count (T : Tx w K mg) : Fn P w K mg base CX0 1 T.f__law_is_count T.fd__law_is_count ["_law_value_here"] (lift K 1 fs__law_is_count) := fn_data T.F__law_is_count sc__law_is_count b__law_is_count (fun _ _ _ _ _ _ hr hgd => d__law_is_count T hr hgd) p__law_is_count
end
def b__law_is_chain : DS :=
  (dSeq (dIfS (dOrT (dNotT (dTest (dIsi "tuple" (dVar 0)))) (dNotT (dTest (dChain oLe oLe (dC (.int 1)) (dCB cLen (dCons (dVar 0) dNil)) (dC (.int 12))))))
    (dRet (dC (.bool false)))
    dNext)
  (dSeq (dFor (dItems (dVar 0)) (dN 1)
    (dSeq (dIfS (dOrT (dNotT (dTest (dIsi "tuple" (dVar 1)))) (dOrT (dTest (dBin fNe (dCB cLen (dCons (dVar 1) dNil)) (dC (.int 2)))) (dOrT (dNotT (dTest (dCall 1 fs__law_is_count (dCons (dIx (dVar 1) (dC (.int 0))) dNil)))) (dNotT (dTest (dChain oLe oLe (dC (.int 1)) (dIx (dVar 1) (dC (.int 0))) (dC (.int 100))))))))
    (dRet (dC (.bool false)))
    dNext)
  (dIfS (dOrT (dNotT (dTest (dIsi "str" (dIx (dVar 1) (dC (.int 1)))))) (dTest (dBin (fIn true) (dIx (dVar 1) (dC (.int 1))) (dTup (dCons (dC (.str "down")) (dCons (dC (.str "half_down")) (dCons (dC (.str "half_even")) (dCons (dC (.str "half_up")) (dCons (dC (.str "odd")) (dCons (dC (.str "up")) dNil))))))))))
    (dRet (dC (.bool false)))
    dNext)))
  (dRet (dC (.bool true)))))
def fs__law_is_chain : FSp := fun rs fu post => ∃ v, rs = [.val v] ∧ layX v = true ∧ post (.val (.bool (isChn v))) fu
theorem layX_mem : ∀ {xs : List Da}, layXs xs = true → ∀ x ∈ xs, layX x = true
  | [], _, x, h => by cases h
  | y :: ys, h, x, hx => by
    have q : layX y = true ∧ layXs ys = true := by simpa [layXs] using h
    rcases List.mem_cons.mp hx with rfl | hx
    · exact q.1
    · exact layX_mem q.2 x hx
def icB : DS := (dSeq (dIfS (dOrT (dNotT (dTest (dIsi "tuple" (dVar 1)))) (dOrT (dTest (dBin fNe (dCB cLen (dCons (dVar 1) dNil)) (dC (.int 2)))) (dOrT (dNotT (dTest (dCall 1 fs__law_is_count (dCons (dIx (dVar 1) (dC (.int 0))) dNil)))) (dNotT (dTest (dChain oLe oLe (dC (.int 1)) (dIx (dVar 1) (dC (.int 0))) (dC (.int 100))))))))
    (dRet (dC (.bool false)))
    dNext)
  (dIfS (dOrT (dNotT (dTest (dIsi "str" (dIx (dVar 1) (dC (.int 1)))))) (dTest (dBin (fIn true) (dIx (dVar 1) (dC (.int 1))) (dTup (dCons (dC (.str "down")) (dCons (dC (.str "half_down")) (dCons (dC (.str "half_even")) (dCons (dC (.str "half_up")) (dCons (dC (.str "odd")) (dCons (dC (.str "up")) dNil))))))))))
    (dRet (dC (.bool false)))
    dNext))
theorem p_icB {D : DEnds} {v x : Da} {fu : Option Nat} (lay : layX x = true) (hn : isStp x = true → D.nx ⟨[some (.val v), some (.val x)], fu, fu.isNone⟩) (hr : isStp x = false → ∀ g : Gs, g.fu = fu → D.rt (.val (.bool false)) g) :
    icB D ⟨[some (.val v), some (.val x)], fu, fu.isNone⟩ := by
  cases x with
  | tuple xs =>
    simp only [↓dSeq,↓dAsg,↓dSetL,↓dNext,↓dIfS,↓dRet,↓dRetL,↓dDrop,↓dNever,↓dAug,↓dPar,↓dParL,↓dApp,↓dVar,↓dC,↓dBin,↓fI,↓fI0,↓fAdd,↓fEq,↓fNe,↓fIn,↓dTest,↓dAndT,↓dOrT,↓dNotT,↓dAndV,↓dOrV,↓dNotV,↓dIf,↓dIsN,↓dChain,↓dNil,↓dCons,↓dTup,↓dLst,↓dFz,↓valsD,↓dIx,↓dCall,↓dCallL,↓hasSrc,↓rrv,↓dN,↓dT,↓dTn,↓dTc,↓rsv,↓Gs.set,↓dFor,↓dItems,↓dRange1,↓dLc,↓dCB,↓cLen,↓cAll,↓cTuple,↓cInt1,↓cInt2,↓dIsi,↓dSetS,↓oSub,↓oAddI,↓oMul,↓oDiv,↓oMod,↓oShl,↓oPow,↓oLt,↓oLe,↓oGt,↓oGe,↓oAbs,↓oMin,↓cMinL,↓cSortedD,↓dSl,↓oNo,↓oSo,↓dBy,↓dD0,↓cLZ,↓dEnum,↓fMulT,↓cReprX,↓dRaise,↓dRaise0,↓dStop,↓dDropX,↓dAsgX,↓dTup2X,↓dCallX,↓dXval,↓dTry,↓dHand,↓dAs,↓gAs,↓Gs.unset,↓rtN,↓dLam,↓dAct,↓lamF,↓gLam,↓plainO,↓Z.isNon,↓dIfT,icB,ent,svOf,List.map_cons,List.map_nil,List.cons_append,List.nil_append,List.append_nil,List.replicate,List.length_cons,List.length_nil,List.getElem?_cons_zero,List.getElem?_cons_succ,List.getElem?_nil,List.set_cons_zero,List.set_cons_succ,Option.map_some,Option.map_none,Option.isNone_some,Option.isNone_none,forall_const,true_implies,false_implies,and_true,true_and,Bool.true_eq_false,Bool.false_eq_true,reduceCtorEq,noOwn,wipeS,hide,fuN_self,lcD,dYes,Nat.zero_add,Nat.reduceAdd,Nat.reduceLeDiff,Nat.reduceSub,atI_0,atI_1,atI_2,atI_3,atI_4,atI_5,Int.one_mul,eqv_ii,eqv_ss,eqv_num,shaped_int,shaped_num,shaped_none,shaped_ru,flat_str,flat_int,flat_none,List.all_cons,List.all_nil,Bool.and_true,decide_eq_true_eq,decide_eq_false_iff_not,Bool.not_eq_true',Bool.not_eq_false',Decidable.not_not,↓reduceIte,Bool.false_eq_true,Int.reduceLT,eqv_strs,pick_0,pick_01,pick_10,pick_012,pick_021,pick_102,pick_120,pick_201,pick_210]
    refine ⟨fun z => (by simp [isTy] at z), fun _ => ⟨fun z => hr (isStp_ne (by omega)) _ rfl, fun z => ?_⟩⟩
    have e : xs.length = 2 := by omega
    match xs, e with
    | [x, y], _ =>
      have ly : layX y = true := layX_mem (show layXs [x, y] = true from lay) y (by simp)
      simp only [↓dSeq,↓dAsg,↓dSetL,↓dNext,↓dIfS,↓dRet,↓dRetL,↓dDrop,↓dNever,↓dAug,↓dPar,↓dParL,↓dApp,↓dVar,↓dC,↓dBin,↓fI,↓fI0,↓fAdd,↓fEq,↓fNe,↓fIn,↓dTest,↓dAndT,↓dOrT,↓dNotT,↓dAndV,↓dOrV,↓dNotV,↓dIf,↓dIsN,↓dChain,↓dNil,↓dCons,↓dTup,↓dLst,↓dFz,↓valsD,↓dIx,↓dCall,↓dCallL,↓hasSrc,↓rrv,↓dN,↓dT,↓dTn,↓dTc,↓rsv,↓Gs.set,↓dFor,↓dItems,↓dRange1,↓dLc,↓dCB,↓cLen,↓cAll,↓cTuple,↓cInt1,↓cInt2,↓dIsi,↓dSetS,↓oSub,↓oAddI,↓oMul,↓oDiv,↓oMod,↓oShl,↓oPow,↓oLt,↓oLe,↓oGt,↓oGe,↓oAbs,↓oMin,↓cMinL,↓cSortedD,↓dSl,↓oNo,↓oSo,↓dBy,↓dD0,↓cLZ,↓dEnum,↓fMulT,↓cReprX,↓dRaise,↓dRaise0,↓dStop,↓dDropX,↓dAsgX,↓dTup2X,↓dCallX,↓dXval,↓dTry,↓dHand,↓dAs,↓gAs,↓Gs.unset,↓rtN,↓dLam,↓dAct,↓lamF,↓gLam,↓plainO,↓Z.isNon,↓dIfT,fs__law_is_count,ent,svOf,List.map_cons,List.map_nil,List.cons_append,List.nil_append,List.append_nil,List.replicate,List.length_cons,List.length_nil,List.getElem?_cons_zero,List.getElem?_cons_succ,List.getElem?_nil,List.set_cons_zero,List.set_cons_succ,Option.map_some,Option.map_none,Option.isNone_some,Option.isNone_none,forall_const,true_implies,false_implies,and_true,true_and,Bool.true_eq_false,Bool.false_eq_true,reduceCtorEq,noOwn,wipeS,hide,fuN_self,lcD,dYes,Nat.zero_add,Nat.reduceAdd,Nat.reduceLeDiff,Nat.reduceSub,atI_0,atI_1,atI_2,atI_3,atI_4,atI_5,Int.one_mul,eqv_ii,eqv_ss,eqv_num,shaped_int,shaped_num,shaped_none,shaped_ru,flat_str,flat_int,flat_none,List.all_cons,List.all_nil,Bool.and_true,decide_eq_true_eq,decide_eq_false_iff_not,Bool.not_eq_true',Bool.not_eq_false',Decidable.not_not,↓reduceIte,Bool.false_eq_true,Int.reduceLT,eqv_strs,pick_0,pick_01,pick_10,pick_012,pick_021,pick_102,pick_120,pick_201,pick_210]
      refine ⟨x, rfl, fun hf => hr ?_ _ rfl, fun ht => ?_⟩
      · have w : isWid x = false := by
          cases x with
          | int n =>
            have : ¬ (0 ≤ n) := by simpa [isInt] using hf
            simp [isWid, isInt]
            omega
          | _ => rfl
        simp [isStp, w]
      · obtain ⟨n, rfl, hn0⟩ := isInt_some ht
        have wd : isWid (.int n) = (decide (1 ≤ n) && decide (n ≤ 100)) := by simp [isWid, isInt]
        simp only [↓dSeq,↓dAsg,↓dSetL,↓dNext,↓dIfS,↓dRet,↓dRetL,↓dDrop,↓dNever,↓dAug,↓dPar,↓dParL,↓dApp,↓dVar,↓dC,↓dBin,↓fI,↓fI0,↓fAdd,↓fEq,↓fNe,↓fIn,↓dTest,↓dAndT,↓dOrT,↓dNotT,↓dAndV,↓dOrV,↓dNotV,↓dIf,↓dIsN,↓dChain,↓dNil,↓dCons,↓dTup,↓dLst,↓dFz,↓valsD,↓dIx,↓dCall,↓dCallL,↓hasSrc,↓rrv,↓dN,↓dT,↓dTn,↓dTc,↓rsv,↓Gs.set,↓dFor,↓dItems,↓dRange1,↓dLc,↓dCB,↓cLen,↓cAll,↓cTuple,↓cInt1,↓cInt2,↓dIsi,↓dSetS,↓oSub,↓oAddI,↓oMul,↓oDiv,↓oMod,↓oShl,↓oPow,↓oLt,↓oLe,↓oGt,↓oGe,↓oAbs,↓oMin,↓cMinL,↓cSortedD,↓dSl,↓oNo,↓oSo,↓dBy,↓dD0,↓cLZ,↓dEnum,↓fMulT,↓cReprX,↓dRaise,↓dRaise0,↓dStop,↓dDropX,↓dAsgX,↓dTup2X,↓dCallX,↓dXval,↓dTry,↓dHand,↓dAs,↓gAs,↓Gs.unset,↓rtN,↓dLam,↓dAct,↓lamF,↓gLam,↓plainO,↓Z.isNon,↓dIfT,ent,svOf,List.map_cons,List.map_nil,List.cons_append,List.nil_append,List.append_nil,List.replicate,List.length_cons,List.length_nil,List.getElem?_cons_zero,List.getElem?_cons_succ,List.getElem?_nil,List.set_cons_zero,List.set_cons_succ,Option.map_some,Option.map_none,Option.isNone_some,Option.isNone_none,forall_const,true_implies,false_implies,and_true,true_and,Bool.true_eq_false,Bool.false_eq_true,reduceCtorEq,noOwn,wipeS,hide,fuN_self,lcD,dYes,Nat.zero_add,Nat.reduceAdd,Nat.reduceLeDiff,Nat.reduceSub,atI_0,atI_1,atI_2,atI_3,atI_4,atI_5,Int.one_mul,eqv_ii,eqv_ss,eqv_num,shaped_int,shaped_num,shaped_none,shaped_ru,flat_str,flat_int,flat_none,List.all_cons,List.all_nil,Bool.and_true,decide_eq_true_eq,decide_eq_false_iff_not,Bool.not_eq_true',Bool.not_eq_false',Decidable.not_not,↓reduceIte,Bool.false_eq_true,Int.reduceLT,eqv_strs,pick_0,pick_01,pick_10,pick_012,pick_021,pick_102,pick_120,pick_201,pick_210]
        by_cases h1 : 1 ≤ n
        · rw [decide_eq_true h1]
          refine ⟨fun q => hr (by simp [isStp, wd]; intro; omega) _ rfl, fun q => ?_⟩
          have w1 : isWid (.int n) = true := by rw [wd, decide_eq_true h1, decide_eq_true (by omega)]; rfl
          have sp : isStp (.tuple [.int n, y]) = isRul y := by simp [isStp, w1]
          rw [sp] at hn hr
          cases y with
          | str r =>
            have fl : flatD (.str r) = true := rfl
            exact ⟨fun q => (by simp [isTy] at q), fun _ => ⟨fl, fun q => hr q _ rfl, fun q => hn q⟩⟩
          | _ => exact ⟨fun _ => hr rfl _ rfl, fun q => (by simp [isTy] at q)⟩
        · rw [decide_eq_false h1]
          exact hr (by simp [isStp, wd, h1]) _ rfl
  | _ => simp only [↓dSeq,↓dAsg,↓dSetL,↓dNext,↓dIfS,↓dRet,↓dRetL,↓dDrop,↓dNever,↓dAug,↓dPar,↓dParL,↓dApp,↓dVar,↓dC,↓dBin,↓fI,↓fI0,↓fAdd,↓fEq,↓fNe,↓fIn,↓dTest,↓dAndT,↓dOrT,↓dNotT,↓dAndV,↓dOrV,↓dNotV,↓dIf,↓dIsN,↓dChain,↓dNil,↓dCons,↓dTup,↓dLst,↓dFz,↓valsD,↓dIx,↓dCall,↓dCallL,↓hasSrc,↓rrv,↓dN,↓dT,↓dTn,↓dTc,↓rsv,↓Gs.set,↓dFor,↓dItems,↓dRange1,↓dLc,↓dCB,↓cLen,↓cAll,↓cTuple,↓cInt1,↓cInt2,↓dIsi,↓dSetS,↓oSub,↓oAddI,↓oMul,↓oDiv,↓oMod,↓oShl,↓oPow,↓oLt,↓oLe,↓oGt,↓oGe,↓oAbs,↓oMin,↓cMinL,↓cSortedD,↓dSl,↓oNo,↓oSo,↓dBy,↓dD0,↓cLZ,↓dEnum,↓fMulT,↓cReprX,↓dRaise,↓dRaise0,↓dStop,↓dDropX,↓dAsgX,↓dTup2X,↓dCallX,↓dXval,↓dTry,↓dHand,↓dAs,↓gAs,↓Gs.unset,↓rtN,↓dLam,↓dAct,↓lamF,↓gLam,↓plainO,↓Z.isNon,↓dIfT,icB,ent,svOf,List.map_cons,List.map_nil,List.cons_append,List.nil_append,List.append_nil,List.replicate,List.length_cons,List.length_nil,List.getElem?_cons_zero,List.getElem?_cons_succ,List.getElem?_nil,List.set_cons_zero,List.set_cons_succ,Option.map_some,Option.map_none,Option.isNone_some,Option.isNone_none,forall_const,true_implies,false_implies,and_true,true_and,Bool.true_eq_false,Bool.false_eq_true,reduceCtorEq,noOwn,wipeS,hide,fuN_self,lcD,dYes,Nat.zero_add,Nat.reduceAdd,Nat.reduceLeDiff,Nat.reduceSub,atI_0,atI_1,atI_2,atI_3,atI_4,atI_5,Int.one_mul,eqv_ii,eqv_ss,eqv_num,shaped_int,shaped_num,shaped_none,shaped_ru,flat_str,flat_int,flat_none,List.all_cons,List.all_nil,Bool.and_true,decide_eq_true_eq,decide_eq_false_iff_not,Bool.not_eq_true',Bool.not_eq_false',Decidable.not_not,↓reduceIte,Bool.false_eq_true,Int.reduceLT,eqv_strs,pick_0,pick_01,pick_10,pick_012,pick_021,pick_102,pick_120,pick_201,pick_210]; exact ⟨fun _ => hr rfl _ rfl, fun q => (by simp [isTy] at q)⟩
theorem p__law_is_chain (rs : List Rv) (fu : Option Nat) (post : Rr → Option Nat → Prop) (hl : rs.length = 1) (h : fs__law_is_chain rs fu post) : b__law_is_chain ⟨fun g => post (.val .none) g.fu, fun r g => post r g.fu, fun _ => False, fun _ => False⟩ (ent N__law_is_chain rs fu) := by
  obtain ⟨v, rfl, lay, h⟩ := h
  have lB := @p_icB
  show (dSeq (dIfS (dOrT (dNotT (dTest (dIsi "tuple" (dVar 0)))) (dNotT (dTest (dChain oLe oLe (dC (.int 1)) (dCB cLen (dCons (dVar 0) dNil)) (dC (.int 12))))))
    (dRet (dC (.bool false)))
    dNext)
  (dSeq (dFor (dItems (dVar 0)) (dN 1) icB)
  (dRet (dC (.bool true))))) _ _
  generalize ll : icB = L at lB
  cases v with
  | tuple xs =>
    simp only [↓dSeq,↓dAsg,↓dSetL,↓dNext,↓dIfS,↓dRet,↓dRetL,↓dDrop,↓dNever,↓dAug,↓dPar,↓dParL,↓dApp,↓dVar,↓dC,↓dBin,↓fI,↓fI0,↓fAdd,↓fEq,↓fNe,↓fIn,↓dTest,↓dAndT,↓dOrT,↓dNotT,↓dAndV,↓dOrV,↓dNotV,↓dIf,↓dIsN,↓dChain,↓dNil,↓dCons,↓dTup,↓dLst,↓dFz,↓valsD,↓dIx,↓dCall,↓dCallL,↓hasSrc,↓rrv,↓dN,↓dT,↓dTn,↓dTc,↓rsv,↓Gs.set,↓dFor,↓dItems,↓dRange1,↓dLc,↓dCB,↓cLen,↓cAll,↓cTuple,↓cInt1,↓cInt2,↓dIsi,↓dSetS,↓oSub,↓oAddI,↓oMul,↓oDiv,↓oMod,↓oShl,↓oPow,↓oLt,↓oLe,↓oGt,↓oGe,↓oAbs,↓oMin,↓cMinL,↓cSortedD,↓dSl,↓oNo,↓oSo,↓dBy,↓dD0,↓cLZ,↓dEnum,↓fMulT,↓cReprX,↓dRaise,↓dRaise0,↓dStop,↓dDropX,↓dAsgX,↓dTup2X,↓dCallX,↓dXval,↓dTry,↓dHand,↓dAs,↓gAs,↓Gs.unset,↓rtN,↓dLam,↓dAct,↓lamF,↓gLam,↓plainO,↓Z.isNon,↓dIfT,ent,svOf,List.map_cons,List.map_nil,List.cons_append,List.nil_append,List.append_nil,List.replicate,List.length_cons,List.length_nil,List.getElem?_cons_zero,List.getElem?_cons_succ,List.getElem?_nil,List.set_cons_zero,List.set_cons_succ,Option.map_some,Option.map_none,Option.isNone_some,Option.isNone_none,forall_const,true_implies,false_implies,and_true,true_and,Bool.true_eq_false,Bool.false_eq_true,reduceCtorEq,noOwn,wipeS,hide,fuN_self,lcD,dYes,Nat.zero_add,Nat.reduceAdd,Nat.reduceLeDiff,Nat.reduceSub,atI_0,atI_1,atI_2,atI_3,atI_4,atI_5,Int.one_mul,eqv_ii,eqv_ss,eqv_num,shaped_int,shaped_num,shaped_none,shaped_ru,flat_str,flat_int,flat_none,List.all_cons,List.all_nil,Bool.and_true,decide_eq_true_eq,decide_eq_false_iff_not,Bool.not_eq_true',Bool.not_eq_false',Decidable.not_not,↓reduceIte,Bool.false_eq_true,Int.reduceLT,eqv_strs,pick_0,pick_01,pick_10,pick_012,pick_021,pick_102,pick_120,pick_201,pick_210]
    refine ⟨fun z => (by simp [isTy] at z), fun _ => ?_⟩
    by_cases h1 : 1 ≤ (xs.length : Int)
    · rw [decide_eq_true h1]
      refine ⟨fun z => ?_, fun h2 => ?_⟩
      · have e : isChn (.tuple xs) = false := by simp [isChn]; intro _ q; exact absurd q z
        rw [e] at h
        exact h
      · have ec : isChn (.tuple xs) = xs.all isStp := by simp only [isChn, h1, h2, decide_true, Bool.true_and]
        rw [ec] at h
        refine forD_ix0 (fun k g => (∀ (i : Nat) x, i < k → xs[i]? = some x → isStp x = true) ∧ ∃ x2 : Option Sv, g = ⟨[some (.val (.tuple xs)), x2], fu, fu.isNone⟩) (fun k x hx g hg N hN => ?_) (fun g hg => ?_) ⟨fun i x hi => absurd hi (Nat.not_lt_zero _), _, rfl⟩
        · obtain ⟨ha, x2, rfl⟩ := hg
          simp only [↓dSeq,↓dAsg,↓dSetL,↓dNext,↓dIfS,↓dRet,↓dRetL,↓dDrop,↓dNever,↓dAug,↓dPar,↓dParL,↓dApp,↓dVar,↓dC,↓dBin,↓fI,↓fI0,↓fAdd,↓fEq,↓fNe,↓fIn,↓dTest,↓dAndT,↓dOrT,↓dNotT,↓dAndV,↓dOrV,↓dNotV,↓dIf,↓dIsN,↓dChain,↓dNil,↓dCons,↓dTup,↓dLst,↓dFz,↓valsD,↓dIx,↓dCall,↓dCallL,↓hasSrc,↓rrv,↓dN,↓dT,↓dTn,↓dTc,↓rsv,↓Gs.set,↓dFor,↓dItems,↓dRange1,↓dLc,↓dCB,↓cLen,↓cAll,↓cTuple,↓cInt1,↓cInt2,↓dIsi,↓dSetS,↓oSub,↓oAddI,↓oMul,↓oDiv,↓oMod,↓oShl,↓oPow,↓oLt,↓oLe,↓oGt,↓oGe,↓oAbs,↓oMin,↓cMinL,↓cSortedD,↓dSl,↓oNo,↓oSo,↓dBy,↓dD0,↓cLZ,↓dEnum,↓fMulT,↓cReprX,↓dRaise,↓dRaise0,↓dStop,↓dDropX,↓dAsgX,↓dTup2X,↓dCallX,↓dXval,↓dTry,↓dHand,↓dAs,↓gAs,↓Gs.unset,↓rtN,↓dLam,↓dAct,↓lamF,↓gLam,↓plainO,↓Z.isNon,↓dIfT,ent,svOf,List.map_cons,List.map_nil,List.cons_append,List.nil_append,List.append_nil,List.replicate,List.length_cons,List.length_nil,List.getElem?_cons_zero,List.getElem?_cons_succ,List.getElem?_nil,List.set_cons_zero,List.set_cons_succ,Option.map_some,Option.map_none,Option.isNone_some,Option.isNone_none,forall_const,true_implies,false_implies,and_true,true_and,Bool.true_eq_false,Bool.false_eq_true,reduceCtorEq,noOwn,wipeS,hide,fuN_self,lcD,dYes,Nat.zero_add,Nat.reduceAdd,Nat.reduceLeDiff,Nat.reduceSub,atI_0,atI_1,atI_2,atI_3,atI_4,atI_5,Int.one_mul,eqv_ii,eqv_ss,eqv_num,shaped_int,shaped_num,shaped_none,shaped_ru,flat_str,flat_int,flat_none,List.all_cons,List.all_nil,Bool.and_true,decide_eq_true_eq,decide_eq_false_iff_not,Bool.not_eq_true',Bool.not_eq_false',Decidable.not_not,↓reduceIte,Bool.false_eq_true,Int.reduceLT,eqv_strs,pick_0,pick_01,pick_10,pick_012,pick_021,pick_102,pick_120,pick_201,pick_210]
          refine lB (layX_mem (show layXs xs = true from lay) x (List.mem_of_getElem? hx)) (fun st => hN _ ⟨fun i y hi hy => ?_, _, rfl⟩) (fun st g hg => ?_)
          · rcases Nat.lt_or_ge i k with q | q
            · exact ha i y q hy
            · obtain rfl : i = k := by omega
              rw [hx] at hy
              cases hy
              exact st
          · show post _ g.fu
            rw [hg]
            have e : xs.all isStp = false := List.all_eq_false.mpr ⟨x, List.mem_of_getElem? hx, by rw [st]; decide⟩
            rw [e] at h
            exact h
        · obtain ⟨ha, x2, rfl⟩ := hg
          simp only [↓dSeq,↓dAsg,↓dSetL,↓dNext,↓dIfS,↓dRet,↓dRetL,↓dDrop,↓dNever,↓dAug,↓dPar,↓dParL,↓dApp,↓dVar,↓dC,↓dBin,↓fI,↓fI0,↓fAdd,↓fEq,↓fNe,↓fIn,↓dTest,↓dAndT,↓dOrT,↓dNotT,↓dAndV,↓dOrV,↓dNotV,↓dIf,↓dIsN,↓dChain,↓dNil,↓dCons,↓dTup,↓dLst,↓dFz,↓valsD,↓dIx,↓dCall,↓dCallL,↓hasSrc,↓rrv,↓dN,↓dT,↓dTn,↓dTc,↓rsv,↓Gs.set,↓dFor,↓dItems,↓dRange1,↓dLc,↓dCB,↓cLen,↓cAll,↓cTuple,↓cInt1,↓cInt2,↓dIsi,↓dSetS,↓oSub,↓oAddI,↓oMul,↓oDiv,↓oMod,↓oShl,↓oPow,↓oLt,↓oLe,↓oGt,↓oGe,↓oAbs,↓oMin,↓cMinL,↓cSortedD,↓dSl,↓oNo,↓oSo,↓dBy,↓dD0,↓cLZ,↓dEnum,↓fMulT,↓cReprX,↓dRaise,↓dRaise0,↓dStop,↓dDropX,↓dAsgX,↓dTup2X,↓dCallX,↓dXval,↓dTry,↓dHand,↓dAs,↓gAs,↓Gs.unset,↓rtN,↓dLam,↓dAct,↓lamF,↓gLam,↓plainO,↓Z.isNon,↓dIfT,ent,svOf,List.map_cons,List.map_nil,List.cons_append,List.nil_append,List.append_nil,List.replicate,List.length_cons,List.length_nil,List.getElem?_cons_zero,List.getElem?_cons_succ,List.getElem?_nil,List.set_cons_zero,List.set_cons_succ,Option.map_some,Option.map_none,Option.isNone_some,Option.isNone_none,forall_const,true_implies,false_implies,and_true,true_and,Bool.true_eq_false,Bool.false_eq_true,reduceCtorEq,noOwn,wipeS,hide,fuN_self,lcD,dYes,Nat.zero_add,Nat.reduceAdd,Nat.reduceLeDiff,Nat.reduceSub,atI_0,atI_1,atI_2,atI_3,atI_4,atI_5,Int.one_mul,eqv_ii,eqv_ss,eqv_num,shaped_int,shaped_num,shaped_none,shaped_ru,flat_str,flat_int,flat_none,List.all_cons,List.all_nil,Bool.and_true,decide_eq_true_eq,decide_eq_false_iff_not,Bool.not_eq_true',Bool.not_eq_false',Decidable.not_not,↓reduceIte,Bool.false_eq_true,Int.reduceLT,eqv_strs,pick_0,pick_01,pick_10,pick_012,pick_021,pick_102,pick_120,pick_201,pick_210]
          have e : xs.all isStp = true := List.all_eq_true.mpr fun x hx => by
            obtain ⟨i, hi⟩ := List.mem_iff_getElem?.mp hx
            exact ha i x (List.getElem?_eq_some_iff.mp hi).1 hi
          rw [e] at h
          exact h
    · rw [decide_eq_false h1]
      simp only [↓dSeq,↓dAsg,↓dSetL,↓dNext,↓dIfS,↓dRet,↓dRetL,↓dDrop,↓dNever,↓dAug,↓dPar,↓dParL,↓dApp,↓dVar,↓dC,↓dBin,↓fI,↓fI0,↓fAdd,↓fEq,↓fNe,↓fIn,↓dTest,↓dAndT,↓dOrT,↓dNotT,↓dAndV,↓dOrV,↓dNotV,↓dIf,↓dIsN,↓dChain,↓dNil,↓dCons,↓dTup,↓dLst,↓dFz,↓valsD,↓dIx,↓dCall,↓dCallL,↓hasSrc,↓rrv,↓dN,↓dT,↓dTn,↓dTc,↓rsv,↓Gs.set,↓dFor,↓dItems,↓dRange1,↓dLc,↓dCB,↓cLen,↓cAll,↓cTuple,↓cInt1,↓cInt2,↓dIsi,↓dSetS,↓oSub,↓oAddI,↓oMul,↓oDiv,↓oMod,↓oShl,↓oPow,↓oLt,↓oLe,↓oGt,↓oGe,↓oAbs,↓oMin,↓cMinL,↓cSortedD,↓dSl,↓oNo,↓oSo,↓dBy,↓dD0,↓cLZ,↓dEnum,↓fMulT,↓cReprX,↓dRaise,↓dRaise0,↓dStop,↓dDropX,↓dAsgX,↓dTup2X,↓dCallX,↓dXval,↓dTry,↓dHand,↓dAs,↓gAs,↓Gs.unset,↓rtN,↓dLam,↓dAct,↓lamF,↓gLam,↓plainO,↓Z.isNon,↓dIfT,ent,svOf,List.map_cons,List.map_nil,List.cons_append,List.nil_append,List.append_nil,List.replicate,List.length_cons,List.length_nil,List.getElem?_cons_zero,List.getElem?_cons_succ,List.getElem?_nil,List.set_cons_zero,List.set_cons_succ,Option.map_some,Option.map_none,Option.isNone_some,Option.isNone_none,forall_const,true_implies,false_implies,and_true,true_and,Bool.true_eq_false,Bool.false_eq_true,reduceCtorEq,noOwn,wipeS,hide,fuN_self,lcD,dYes,Nat.zero_add,Nat.reduceAdd,Nat.reduceLeDiff,Nat.reduceSub,atI_0,atI_1,atI_2,atI_3,atI_4,atI_5,Int.one_mul,eqv_ii,eqv_ss,eqv_num,shaped_int,shaped_num,shaped_none,shaped_ru,flat_str,flat_int,flat_none,List.all_cons,List.all_nil,Bool.and_true,decide_eq_true_eq,decide_eq_false_iff_not,Bool.not_eq_true',Bool.not_eq_false',Decidable.not_not,↓reduceIte,Bool.false_eq_true,Int.reduceLT,eqv_strs,pick_0,pick_01,pick_10,pick_012,pick_021,pick_102,pick_120,pick_201,pick_210]
      have e : isChn (.tuple xs) = false := by simp only [isChn, h1, decide_false, Bool.false_and]
      rw [e] at h
      exact h
  | _ => simp only [↓dSeq,↓dAsg,↓dSetL,↓dNext,↓dIfS,↓dRet,↓dRetL,↓dDrop,↓dNever,↓dAug,↓dPar,↓dParL,↓dApp,↓dVar,↓dC,↓dBin,↓fI,↓fI0,↓fAdd,↓fEq,↓fNe,↓fIn,↓dTest,↓dAndT,↓dOrT,↓dNotT,↓dAndV,↓dOrV,↓dNotV,↓dIf,↓dIsN,↓dChain,↓dNil,↓dCons,↓dTup,↓dLst,↓dFz,↓valsD,↓dIx,↓dCall,↓dCallL,↓hasSrc,↓rrv,↓dN,↓dT,↓dTn,↓dTc,↓rsv,↓Gs.set,↓dFor,↓dItems,↓dRange1,↓dLc,↓dCB,↓cLen,↓cAll,↓cTuple,↓cInt1,↓cInt2,↓dIsi,↓dSetS,↓oSub,↓oAddI,↓oMul,↓oDiv,↓oMod,↓oShl,↓oPow,↓oLt,↓oLe,↓oGt,↓oGe,↓oAbs,↓oMin,↓cMinL,↓cSortedD,↓dSl,↓oNo,↓oSo,↓dBy,↓dD0,↓cLZ,↓dEnum,↓fMulT,↓cReprX,↓dRaise,↓dRaise0,↓dStop,↓dDropX,↓dAsgX,↓dTup2X,↓dCallX,↓dXval,↓dTry,↓dHand,↓dAs,↓gAs,↓Gs.unset,↓rtN,↓dLam,↓dAct,↓lamF,↓gLam,↓plainO,↓Z.isNon,↓dIfT,ent,svOf,List.map_cons,List.map_nil,List.cons_append,List.nil_append,List.append_nil,List.replicate,List.length_cons,List.length_nil,List.getElem?_cons_zero,List.getElem?_cons_succ,List.getElem?_nil,List.set_cons_zero,List.set_cons_succ,Option.map_some,Option.map_none,Option.isNone_some,Option.isNone_none,forall_const,true_implies,false_implies,and_true,true_and,Bool.true_eq_false,Bool.false_eq_true,reduceCtorEq,noOwn,wipeS,hide,fuN_self,lcD,dYes,Nat.zero_add,Nat.reduceAdd,Nat.reduceLeDiff,Nat.reduceSub,atI_0,atI_1,atI_2,atI_3,atI_4,atI_5,Int.one_mul,eqv_ii,eqv_ss,eqv_num,shaped_int,shaped_num,shaped_none,shaped_ru,flat_str,flat_int,flat_none,List.all_cons,List.all_nil,Bool.and_true,decide_eq_true_eq,decide_eq_false_iff_not,Bool.not_eq_true',Bool.not_eq_false',Decidable.not_not,↓reduceIte,Bool.false_eq_true,Int.reduceLT,eqv_strs,pick_0,pick_01,pick_10,pick_012,pick_021,pick_102,pick_120,pick_201,pick_210]; exact ⟨fun _ => h, fun q => (by simp [isTy] at q)⟩
section
variable {P : Program} {w : World} {K : Fg} {mg : Str → Option Value} {base : Heap}
theorem d__law_is_chain (T : Tx w K mg) {cdv : Value} {A : Around} {outer : List Env} {s : Shared} {H : Hp} {E : XK} (hr : Room 1 (A.deeper (envOfC "_law_is_chain" (defScope st__law_is_chain) s.heap.objs.size T.f__law_is_chain cdv))) (hgd : (A.deeper (envOfC "_law_is_chain" (defScope st__law_is_chain) s.heap.objs.size T.f__law_is_chain cdv)).guards = some []) :
    PSs (cxOf CX0 P w K mg base N__law_is_chain "_law_is_chain" (defScope st__law_is_chain) T.f__law_is_chain cdv A outer s H E).nox (defBody st__law_is_chain) (upS K W0 b__law_is_chain) :=
  (ss_cons (s_if (PW.pt (w_or (t_not (t_val (e_isi kit_tuple (by rfl) T.n_isinstance (e_var 0 (pv 0)) (c_ty (by rfl) T.n_tuple (by decide +kernel))))) (w_or1 (t_not (t_lele e_int (e_len (by rfl) T.n_len (a_cons (e_var 0 (pv 0)) a_nil)) e_int))))) (ss_one (s_ret e_bl)) ss_nil)
    (ss_cons (s_for PassesOwn.never rfl (i_items (e_var 0 (pv 0))) (g_name (pg_name (i := 1) sc__law_is_chain.nd rfl (.inl rfl))) (ss_cons (s_if (PW.pt (w_or (t_not (t_val (e_isi kit_tuple (by rfl) T.n_isinstance (e_var 1 (pv 1)) (c_ty (by rfl) T.n_tuple (by decide +kernel))))) (w_or (t_ne hr.units (e_len (by rfl) T.n_len (a_cons (e_var 1 (pv 1)) a_nil)) e_int) (w_or (t_not (t_val (e_call (ok__law_is_count T) (hr.mono (by decide)) hgd (by rfl) T.g__law_is_count T.F__law_is_count.kp T.b__law_is_count pass0 (a_cons (e_ix (e_var 1 (pv 1)) e_int) a_nil)))) (w_or1 (t_not (t_lele e_int (e_ix (e_var 1 (pv 1)) e_int) e_int))))))) (ss_one (s_ret e_bl)) ss_nil)
    (ss_one (s_if (PW.pt (w_or (t_not (t_val (e_isi kit_str (by rfl) T.n_isinstance (e_ix (e_var 1 (pv 1)) e_int) (c_ty (by rfl) T.n_str (by decide +kernel))))) (w_or1 (t_notin (e_ix (e_var 1 (pv 1)) e_int) (e_tup (a_cons e_str (a_cons e_str (a_cons e_str (a_cons e_str (a_cons e_str (a_cons e_str a_nil))))))))))) (ss_one (s_ret e_bl)) ss_nil))))
    (ss_one (s_ret e_bl))))
theorem ok__law_is_chain (T : Tx w K mg) : Fn P w K mg base CX0 2 T.f__law_is_chain T.fd__law_is_chain ["_law_value_here"] (lift K 1 fs__law_is_chain) := fn_data T.F__law_is_chain sc__law_is_chain b__law_is_chain (fun _ _ _ _ _ _ hr hgd => d__law_is_chain T hr hgd) p__law_is_chain
end
def b__law_least : DS :=
  (dRet (dCB cMinL (dCons (dFz (dLc [1, 2] (dItems (dVar 0)) (dT 2 (dTc (dN 1) (dTc (dN 2) dTn))) dYes (dVar 1))) dNil)))
def fs__law_least : FSp := fun rs fu post => ∃ c : List (Int × Ru), rs = [.val (chD c)] ∧ Chn1 c ∧ post (.val (.int (chT c).1)) fu
theorem p__law_least (rs : List Rv) (fu : Option Nat) (post : Rr → Option Nat → Prop) (hl : rs.length = 1) (h : fs__law_least rs fu post) : b__law_least ⟨fun g => post (.val .none) g.fu, fun r g => post r g.fu, fun _ => False, fun _ => False⟩ (ent N__law_least rs fu) := by
  obtain ⟨c, rfl, hc, h⟩ := h
  simp only [↓dSeq,↓dAsg,↓dSetL,↓dNext,↓dIfS,↓dRet,↓dRetL,↓dDrop,↓dNever,↓dAug,↓dPar,↓dParL,↓dApp,↓dVar,↓dC,↓dBin,↓fI,↓fI0,↓fAdd,↓fEq,↓fNe,↓fIn,↓dTest,↓dAndT,↓dOrT,↓dNotT,↓dAndV,↓dOrV,↓dNotV,↓dIf,↓dIsN,↓dChain,↓dNil,↓dCons,↓dTup,↓dLst,↓dFz,↓valsD,↓dIx,↓dCall,↓dCallL,↓hasSrc,↓rrv,↓dN,↓dT,↓dTn,↓dTc,↓rsv,↓Gs.set,↓dFor,↓dItems,↓dRange1,↓dLc,↓dCB,↓cLen,↓cAll,↓cTuple,↓cInt1,↓cInt2,↓dIsi,↓dSetS,↓oSub,↓oAddI,↓oMul,↓oDiv,↓oMod,↓oShl,↓oPow,↓oLt,↓oLe,↓oGt,↓oGe,↓oAbs,↓oMin,↓cMinL,↓cSortedD,↓dSl,↓oNo,↓oSo,↓dBy,↓dD0,↓cLZ,↓dEnum,↓fMulT,↓cReprX,↓dRaise,↓dRaise0,↓dStop,↓dDropX,↓dAsgX,↓dTup2X,↓dCallX,↓dXval,↓dTry,↓dHand,↓dAs,↓gAs,↓Gs.unset,↓rtN,↓dLam,↓dAct,↓lamF,↓gLam,↓plainO,↓Z.isNon,↓dIfT,b__law_least,ent,svOf,List.map_cons,List.map_nil,List.cons_append,List.nil_append,List.append_nil,List.replicate,List.length_cons,List.length_nil,List.getElem?_cons_zero,List.getElem?_cons_succ,List.getElem?_nil,List.set_cons_zero,List.set_cons_succ,Option.map_some,Option.map_none,Option.isNone_some,Option.isNone_none,forall_const,true_implies,false_implies,and_true,true_and,Bool.true_eq_false,Bool.false_eq_true,reduceCtorEq,noOwn,wipeS,hide,fuN_self,lcD,dYes,Nat.zero_add,Nat.reduceAdd,Nat.reduceLeDiff,Nat.reduceSub,atI_0,atI_1,atI_2,atI_3,atI_4,atI_5,Int.one_mul,eqv_ii,eqv_ss,eqv_num,shaped_int,shaped_num,shaped_none,shaped_ru,flat_str,flat_int,flat_none,List.all_cons,List.all_nil,Bool.and_true,decide_eq_true_eq,decide_eq_false_iff_not,Bool.not_eq_true',Bool.not_eq_false',Decidable.not_not,↓reduceIte,Bool.false_eq_true,Int.reduceLT,eqv_strs,pick_0,pick_01,pick_10,pick_012,pick_021,pick_102,pick_120,pick_201,pick_210]
  unfold chD
  simp only [↓dSeq,↓dAsg,↓dSetL,↓dNext,↓dIfS,↓dRet,↓dRetL,↓dDrop,↓dNever,↓dAug,↓dPar,↓dParL,↓dApp,↓dVar,↓dC,↓dBin,↓fI,↓fI0,↓fAdd,↓fEq,↓fNe,↓fIn,↓dTest,↓dAndT,↓dOrT,↓dNotT,↓dAndV,↓dOrV,↓dNotV,↓dIf,↓dIsN,↓dChain,↓dNil,↓dCons,↓dTup,↓dLst,↓dFz,↓valsD,↓dIx,↓dCall,↓dCallL,↓hasSrc,↓rrv,↓dN,↓dT,↓dTn,↓dTc,↓rsv,↓Gs.set,↓dFor,↓dItems,↓dRange1,↓dLc,↓dCB,↓cLen,↓cAll,↓cTuple,↓cInt1,↓cInt2,↓dIsi,↓dSetS,↓oSub,↓oAddI,↓oMul,↓oDiv,↓oMod,↓oShl,↓oPow,↓oLt,↓oLe,↓oGt,↓oGe,↓oAbs,↓oMin,↓cMinL,↓cSortedD,↓dSl,↓oNo,↓oSo,↓dBy,↓dD0,↓cLZ,↓dEnum,↓fMulT,↓cReprX,↓dRaise,↓dRaise0,↓dStop,↓dDropX,↓dAsgX,↓dTup2X,↓dCallX,↓dXval,↓dTry,↓dHand,↓dAs,↓gAs,↓Gs.unset,↓rtN,↓dLam,↓dAct,↓lamF,↓gLam,↓plainO,↓Z.isNon,↓dIfT,ent,svOf,List.map_cons,List.map_nil,List.cons_append,List.nil_append,List.append_nil,List.replicate,List.length_cons,List.length_nil,List.getElem?_cons_zero,List.getElem?_cons_succ,List.getElem?_nil,List.set_cons_zero,List.set_cons_succ,Option.map_some,Option.map_none,Option.isNone_some,Option.isNone_none,forall_const,true_implies,false_implies,and_true,true_and,Bool.true_eq_false,Bool.false_eq_true,reduceCtorEq,noOwn,wipeS,hide,fuN_self,lcD,dYes,Nat.zero_add,Nat.reduceAdd,Nat.reduceLeDiff,Nat.reduceSub,atI_0,atI_1,atI_2,atI_3,atI_4,atI_5,Int.one_mul,eqv_ii,eqv_ss,eqv_num,shaped_int,shaped_num,shaped_none,shaped_ru,flat_str,flat_int,flat_none,List.all_cons,List.all_nil,Bool.and_true,decide_eq_true_eq,decide_eq_false_iff_not,Bool.not_eq_true',Bool.not_eq_false',Decidable.not_not,↓reduceIte,Bool.false_eq_true,Int.reduceLT,eqv_strs,pick_0,pick_01,pick_10,pick_012,pick_021,pick_102,pick_120,pick_201,pick_210]
  refine lc_mapT (fun d => match d with | .tuple (x :: _) => x | _ => .none) (fun x hx R N hR => ?_) (by have := hc.len; simp; omega) ?_
  · obtain ⟨s, hs, rfl⟩ := List.mem_map.mp hx
    unfold stD at hR ⊢
    simp only [↓dSeq,↓dAsg,↓dSetL,↓dNext,↓dIfS,↓dRet,↓dRetL,↓dDrop,↓dNever,↓dAug,↓dPar,↓dParL,↓dApp,↓dVar,↓dC,↓dBin,↓fI,↓fI0,↓fAdd,↓fEq,↓fNe,↓fIn,↓dTest,↓dAndT,↓dOrT,↓dNotT,↓dAndV,↓dOrV,↓dNotV,↓dIf,↓dIsN,↓dChain,↓dNil,↓dCons,↓dTup,↓dLst,↓dFz,↓valsD,↓dIx,↓dCall,↓dCallL,↓hasSrc,↓rrv,↓dN,↓dT,↓dTn,↓dTc,↓rsv,↓Gs.set,↓dFor,↓dItems,↓dRange1,↓dLc,↓dCB,↓cLen,↓cAll,↓cTuple,↓cInt1,↓cInt2,↓dIsi,↓dSetS,↓oSub,↓oAddI,↓oMul,↓oDiv,↓oMod,↓oShl,↓oPow,↓oLt,↓oLe,↓oGt,↓oGe,↓oAbs,↓oMin,↓cMinL,↓cSortedD,↓dSl,↓oNo,↓oSo,↓dBy,↓dD0,↓cLZ,↓dEnum,↓fMulT,↓cReprX,↓dRaise,↓dRaise0,↓dStop,↓dDropX,↓dAsgX,↓dTup2X,↓dCallX,↓dXval,↓dTry,↓dHand,↓dAs,↓gAs,↓Gs.unset,↓rtN,↓dLam,↓dAct,↓lamF,↓gLam,↓plainO,↓Z.isNon,↓dIfT,ent,svOf,List.map_cons,List.map_nil,List.cons_append,List.nil_append,List.append_nil,List.replicate,List.length_cons,List.length_nil,List.getElem?_cons_zero,List.getElem?_cons_succ,List.getElem?_nil,List.set_cons_zero,List.set_cons_succ,Option.map_some,Option.map_none,Option.isNone_some,Option.isNone_none,forall_const,true_implies,false_implies,and_true,true_and,Bool.true_eq_false,Bool.false_eq_true,reduceCtorEq,noOwn,wipeS,hide,fuN_self,lcD,dYes,Nat.zero_add,Nat.reduceAdd,Nat.reduceLeDiff,Nat.reduceSub,atI_0,atI_1,atI_2,atI_3,atI_4,atI_5,Int.one_mul,eqv_ii,eqv_ss,eqv_num,shaped_int,shaped_num,shaped_none,shaped_ru,flat_str,flat_int,flat_none,List.all_cons,List.all_nil,Bool.and_true,decide_eq_true_eq,decide_eq_false_iff_not,Bool.not_eq_true',Bool.not_eq_false',Decidable.not_not,↓reduceIte,Bool.false_eq_true,Int.reduceLT,eqv_strs,pick_0,pick_01,pick_10,pick_012,pick_021,pick_102,pick_120,pick_201,pick_210]
    exact hR _ rfl
  · have e : List.map (fun d => match d with | .tuple (x :: _) => x | _ => .none) (c.map stD) = (c.map Prod.fst).map PyData.int := by
      rw [List.map_map, List.map_map]
      rfl
    rw [List.nil_append, e, intsD_map]
    obtain ⟨m1, s, hs, m2⟩ := chT_min hc.ne
    refine ⟨by rw [List.length_map]; exact List.length_pos_iff.mpr hc.ne, fun m hm hy => ?_⟩
    obtain ⟨t, ht, rfl⟩ := List.mem_map.mp hm
    have a := hy s.1 (List.mem_map_of_mem hs)
    have b := m1 t ht
    have : t.1 = (chT c).1 := by omega
    rw [this]
    exact h
section
variable {P : Program} {w : World} {K : Fg} {mg : Str → Option Value} {base : Heap}
theorem d__law_least (T : Tx w K mg) {cdv : Value} {A : Around} {outer : List Env} {s : Shared} {H : Hp} {E : XK} (hr : Room 0 (A.deeper (envOfC "_law_least" (defScope st__law_least) s.heap.objs.size T.f__law_least cdv))) (hgd : (A.deeper (envOfC "_law_least" (defScope st__law_least) s.heap.objs.size T.f__law_least cdv)).guards = some []) :
    PSs (cxOf CX0 P w K mg base N__law_least "_law_least" (defScope st__law_least) T.f__law_least cdv A outer s H E).nox (defBody st__law_least) (upS K W0 b__law_least) :=
  (ss_one (s_ret (e_minL rfl (by rfl) T.n_min (a_cons (e_fz (e_lc (own := [("_law_width", 1), ("_law_rule_here", 2)]) rfl sc__law_least.nd (i_items (e_var 0 (pv 0))) (blkOk_by (own := [("_law_width", 1), ("_law_rule_here", 2)]) (N := N__law_least) (sc := defScope st__law_least) (by decide +kernel)) (fun _ _ _ _ _ => (gw_tup rfl rfl (gsw_cons (gw_name rfl (pg_name (i := 1) sc__law_least.nd rfl (.inl rfl)) (by decide)) (gsw_cons (gw_name rfl (pg_name (i := 2) sc__law_least.nd rfl (.inl rfl)) (by decide)) gsw_nil)))) (fun _ _ _ _ _ => ts_yes) (fun _ _ _ _ _ => (e_var 1 (pv 1))))) a_nil))))
theorem ok__law_least (T : Tx w K mg) : Fn P w K mg base CX0 1 T.f__law_least T.fd__law_least ["_law_chain_here"] (lift K 1 fs__law_least) := fn_data T.F__law_least sc__law_least b__law_least (fun _ _ _ _ _ _ hr hgd => d__law_least T hr hgd) p__law_least
end
def b__law_odd_value : DS :=
  (dSeq (dAsg (dFz (dLst (dCons (dC .none) (dCons (dC (.bool true)) (dCons (dC (.int 0)) (dCons (dC (.str "odd")) (dCons (dTup dNil) (dCons (dFz (dLst dNil)) (dCons dD0 (dCons (dTup (dCons (dTup (dCons (dC (.int 0)) (dCons (dC (.str "up")) dNil))) dNil)) (dCons (dTup (dCons (dTup (dCons (dC (.int 101)) (dCons (dC (.str "up")) dNil))) dNil)) (dCons (dTup (dCons (dTup (dCons (dC (.int 2)) (dCons (dC (.str "even")) dNil))) dNil)) (dCons (dTup (dCons (dTup (dCons (dC (.int 2)) dNil)) dNil)) (dCons (dTup (dCons (dC (.int 2)) (dCons (dC (.str "up")) dNil))) dNil)))))))))))))) (dN 1))
  (dSeq (dAsg (dBin fAdd (dVar 1) (dFz (dLst (dCons (dTup (dCons (dTup (dCons (dC (.bool true)) (dCons (dC (.str "up")) dNil))) dNil)) (dCons (dTup (dCons (dFz (dLst (dCons (dC (.int 2)) (dCons (dC (.str "up")) dNil)))) dNil)) (dCons (dFz (dLst (dCons (dTup (dCons (dC (.int 2)) (dCons (dC (.str "up")) dNil))) dNil))) (dCons (dBin fMulT (dTup (dCons (dTup (dCons (dC (.int 2)) (dCons (dC (.str "up")) dNil))) dNil)) (dC (.int 13))) (dCons (dTup (dCons (dTup (dCons (dC (.int 2)) (dCons (dC (.str "up")) (dCons (dC (.int 0)) dNil)))) dNil)) (dCons (dTup (dCons (dTup (dCons (dC (.int 2)) (dCons (dC .none) dNil))) dNil)) dNil))))))))) (dN 1))
  (dRet (dCall 2 fs__law_pick (dCons (dVar 0) (dCons (dBin fAdd (dVar 1) (dFz (dLst (dCons (dTup (dCons (dC .none) dNil)) (dCons (dTup (dCons (dTup (dCons (dC (.str "2")) (dCons (dC (.str "up")) dNil))) dNil)) dNil))))) dNil))))))
/-- a value that is no chain -/
structure OddC (d : Da) : Prop where
  sh : ShX d
  no : isChn d = false
  sz : szX d ≤ 1000000
  dp : d.depth ≤ 50
theorem odd_all : ∀ d ∈ ([.none, .bool true, .int 0, .str (Str.ofString "odd"), .tuple [], .list [], .dict [], .tuple [.tuple [.int 0, .str (Str.ofString "up")]], .tuple [.tuple [.int 101, .str (Str.ofString "up")]], .tuple [.tuple [.int 2, .str (Str.ofString "even")]], .tuple [.tuple [.int 2]], .tuple [.int 2, .str (Str.ofString "up")],
    .tuple [.tuple [.bool true, .str (Str.ofString "up")]], .tuple [.list [.int 2, .str (Str.ofString "up")]], .list [.tuple [.int 2, .str (Str.ofString "up")]], .tuple (repD [.tuple [.int 2, .str (Str.ofString "up")]] 13), .tuple [.tuple [.int 2, .str (Str.ofString "up"), .int 0]], .tuple [.tuple [.int 2, .none]], .tuple [.none], .tuple [.tuple [.str (Str.ofString "2"), .str (Str.ofString "up")]]] : List Da), OddC d := by
  intro d hd
  have a : layX d = true ∧ PyData.showable d = true ∧ PyData.depth d ≤ 50 ∧ szX d ≤ 1000000 ∧ isChn d = false := by
    simp only [List.mem_cons, List.not_mem_nil, or_false] at hd
    rcases hd with rfl | rfl | rfl | rfl | rfl | rfl | rfl | rfl | rfl | rfl | rfl | rfl | rfl | rfl | rfl | rfl | rfl | rfl | rfl | rfl
    all_goals exact ⟨by decide +kernel, by decide +kernel, by decide +kernel, by decide +kernel, by decide +kernel⟩
  exact ⟨⟨a.1, a.2.1, Nat.le_trans a.2.2.1 (by decide), Nat.le_trans a.2.2.2.1 (by decide)⟩, a.2.2.2.2, a.2.2.2.1, a.2.2.1⟩
def fs__law_odd_value : FSp := fun rs fu post => ∃ m : Nat, rs = [.src] ∧ fu = some (m + 1) ∧ ∀ d : Da, OddC d → post (.val d) (some m)
theorem p__law_odd_value (rs : List Rv) (fu : Option Nat) (post : Rr → Option Nat → Prop) (hl : rs.length = 1) (h : fs__law_odd_value rs fu post) : b__law_odd_value ⟨fun g => post (.val .none) g.fu, fun r g => post r g.fu, fun _ => False, fun _ => False⟩ (ent N__law_odd_value rs fu) := by
  obtain ⟨m, rfl, rfl, h⟩ := h
  have ob := odd_all
  simp only [↓dSeq,↓dAsg,↓dSetL,↓dNext,↓dIfS,↓dRet,↓dRetL,↓dDrop,↓dNever,↓dAug,↓dPar,↓dParL,↓dApp,↓dVar,↓dC,↓dBin,↓fI,↓fI0,↓fAdd,↓fEq,↓fNe,↓fIn,↓dTest,↓dAndT,↓dOrT,↓dNotT,↓dAndV,↓dOrV,↓dNotV,↓dIf,↓dIsN,↓dChain,↓dNil,↓dCons,↓dTup,↓dLst,↓dFz,↓valsD,↓dIx,↓dCall,↓dCallL,↓hasSrc,↓rrv,↓dN,↓dT,↓dTn,↓dTc,↓rsv,↓Gs.set,↓dFor,↓dItems,↓dRange1,↓dLc,↓dCB,↓cLen,↓cAll,↓cTuple,↓cInt1,↓cInt2,↓dIsi,↓dSetS,↓oSub,↓oAddI,↓oMul,↓oDiv,↓oMod,↓oShl,↓oPow,↓oLt,↓oLe,↓oGt,↓oGe,↓oAbs,↓oMin,↓cMinL,↓cSortedD,↓dSl,↓oNo,↓oSo,↓dBy,↓dD0,↓cLZ,↓dEnum,↓fMulT,↓cReprX,↓dRaise,↓dRaise0,↓dStop,↓dDropX,↓dAsgX,↓dTup2X,↓dCallX,↓dXval,↓dTry,↓dHand,↓dAs,↓gAs,↓Gs.unset,↓rtN,↓dLam,↓dAct,↓lamF,↓gLam,↓plainO,↓Z.isNon,↓dIfT,b__law_odd_value,fs__law_pick,ent,svOf,List.map_cons,List.map_nil,List.cons_append,List.nil_append,List.append_nil,List.replicate,List.length_cons,List.length_nil,List.getElem?_cons_zero,List.getElem?_cons_succ,List.getElem?_nil,List.set_cons_zero,List.set_cons_succ,Option.map_some,Option.map_none,Option.isNone_some,Option.isNone_none,forall_const,true_implies,false_implies,and_true,true_and,Bool.true_eq_false,Bool.false_eq_true,reduceCtorEq,noOwn,wipeS,hide,fuN_self,lcD,dYes,Nat.zero_add,Nat.reduceAdd,Nat.reduceLeDiff,Nat.reduceSub,atI_0,atI_1,atI_2,atI_3,atI_4,atI_5,Int.one_mul,eqv_ii,eqv_ss,eqv_num,shaped_int,shaped_num,shaped_none,shaped_ru,flat_str,flat_int,flat_none,List.all_cons,List.all_nil,Bool.and_true,decide_eq_true_eq,decide_eq_false_iff_not,Bool.not_eq_true',Bool.not_eq_false',Decidable.not_not,↓reduceIte,Bool.false_eq_true,Int.reduceLT,eqv_strs,pick_0,pick_01,pick_10,pick_012,pick_021,pick_102,pick_120,pick_201,pick_210]
  exact ⟨by decide, by decide, by simp, by decide +kernel, by decide +kernel, _, m, rfl, rfl, by show 0 < 20; decide, by show 20 < 1000000; decide, fun v hv => h v (ob v hv)⟩
section
variable {P : Program} {w : World} {K : Fg} {mg : Str → Option Value} {base : Heap}
theorem d__law_odd_value (T : Tx w K mg) {cdv : Value} {A : Around} {outer : List Env} {s : Shared} {H : Hp} {E : XK} (hr : Room 2 (A.deeper (envOfC "_law_odd_value" (defScope st__law_odd_value) s.heap.objs.size T.f__law_odd_value cdv))) (hgd : (A.deeper (envOfC "_law_odd_value" (defScope st__law_odd_value) s.heap.objs.size T.f__law_odd_value cdv)).guards = some []) :
    PSs (cxOf CX0 P w K mg base N__law_odd_value "_law_odd_value" (defScope st__law_odd_value) T.f__law_odd_value cdv A outer s H E).nox (defBody st__law_odd_value) (upS K W0 b__law_odd_value) :=
  (ss_cons (s_set (i := 1) sc__law_odd_value.nd rfl (.inl rfl) (e_fz (e_lstL (a_cons e_non (a_cons e_bl (a_cons e_int (a_cons e_str (a_cons (e_tup a_nil) (a_cons (e_fz (e_lstL a_nil)) (a_cons e_d0 (a_cons (e_tup (a_cons (e_tup (a_cons e_int (a_cons e_str a_nil))) a_nil)) (a_cons (e_tup (a_cons (e_tup (a_cons e_int (a_cons e_str a_nil))) a_nil)) (a_cons (e_tup (a_cons (e_tup (a_cons e_int (a_cons e_str a_nil))) a_nil)) (a_cons (e_tup (a_cons (e_tup (a_cons e_int a_nil)) a_nil)) (a_cons (e_tup (a_cons e_int (a_cons e_str a_nil))) a_nil)))))))))))))))
    (ss_cons (s_set (i := 1) sc__law_odd_value.nd rfl (.inl rfl) (e_add (e_var 1 (pv 1)) (e_fz (e_lstL (a_cons (e_tup (a_cons (e_tup (a_cons e_bl (a_cons e_str a_nil))) a_nil)) (a_cons (e_tup (a_cons (e_fz (e_lstL (a_cons e_int (a_cons e_str a_nil)))) a_nil)) (a_cons (e_fz (e_lstL (a_cons (e_tup (a_cons e_int (a_cons e_str a_nil))) a_nil))) (a_cons (e_mulT (e_tup (a_cons (e_tup (a_cons e_int (a_cons e_str a_nil))) a_nil)) e_int) (a_cons (e_tup (a_cons (e_tup (a_cons e_int (a_cons e_str (a_cons e_int a_nil)))) a_nil)) (a_cons (e_tup (a_cons (e_tup (a_cons e_int (a_cons e_non a_nil))) a_nil)) a_nil))))))))))
    (ss_one (s_ret (e_call (ok__law_pick T) (hr.mono (by decide)) hgd (by rfl) T.g__law_pick T.F__law_pick.kp T.b__law_pick pass0 (a_cons (e_var 0 (pv 0)) (a_cons (e_add (e_var 1 (pv 1)) (e_fz (e_lstL (a_cons (e_tup (a_cons e_non a_nil)) (a_cons (e_tup (a_cons (e_tup (a_cons e_str (a_cons e_str a_nil))) a_nil)) a_nil))))) a_nil)))))))
theorem ok__law_odd_value (T : Tx w K mg) : Fn P w K mg base CX0 3 T.f__law_odd_value T.fd__law_odd_value ["_law_source_here"] (lift K 1 fs__law_odd_value) := fn_data T.F__law_odd_value sc__law_odd_value b__law_odd_value (fun _ _ _ _ _ _ hr hgd => d__law_odd_value T hr hgd) p__law_odd_value
end
def b__law_value : DS :=
  (dRet (dIf (dTest (dBin fEq (dCall 2 fs__law_draw (dCons (dVar 0) (dCons (dC (.int 4)) dNil))) (dC (.int 0)))) (dCall 1 fs__law_odd_value (dCons (dVar 0) dNil)) (dCall 4 fs__law_chain (dCons (dVar 0) (dCons (dVar 1) (dCons (dVar 2) (dCons (dVar 3) dNil)))))))
def fs__law_value : FSp := fun rs fu post => ∃ (last most far : Int) (m : Nat), rs = [.src, .val (.int last), .val (.int most), .val (.int far)] ∧ fu = some (m + 1) ∧ 1 ≤ last ∧ 1 ≤ most ∧ most ≤ 12 ∧ 1 ≤ far ∧ last + far ≤ 100 ∧ 30 ≤ m ∧
  (∀ (c : List (Int × Ru)) (m' : Nat), m ≤ m' + 30 → Drc last far most c → EndW last c → post (.val (chD c)) (some m')) ∧ ∀ (d : Da) (m' : Nat), m ≤ m' + 1 → OddC d → post (.val d) (some m')
theorem p__law_value (rs : List Rv) (fu : Option Nat) (post : Rr → Option Nat → Prop) (hl : rs.length = 4) (h : fs__law_value rs fu post) : b__law_value ⟨fun g => post (.val .none) g.fu, fun r g => post r g.fu, fun _ => False, fun _ => False⟩ (ent N__law_value rs fu) := by
  obtain ⟨last, most, far, m, rfl, rfl, h1, h2, h3, h4, h5, h6, hc, ho⟩ := h
  simp only [↓dSeq,↓dAsg,↓dSetL,↓dNext,↓dIfS,↓dRet,↓dRetL,↓dDrop,↓dNever,↓dAug,↓dPar,↓dParL,↓dApp,↓dVar,↓dC,↓dBin,↓fI,↓fI0,↓fAdd,↓fEq,↓fNe,↓fIn,↓dTest,↓dAndT,↓dOrT,↓dNotT,↓dAndV,↓dOrV,↓dNotV,↓dIf,↓dIsN,↓dChain,↓dNil,↓dCons,↓dTup,↓dLst,↓dFz,↓valsD,↓dIx,↓dCall,↓dCallL,↓hasSrc,↓rrv,↓dN,↓dT,↓dTn,↓dTc,↓rsv,↓Gs.set,↓dFor,↓dItems,↓dRange1,↓dLc,↓dCB,↓cLen,↓cAll,↓cTuple,↓cInt1,↓cInt2,↓dIsi,↓dSetS,↓oSub,↓oAddI,↓oMul,↓oDiv,↓oMod,↓oShl,↓oPow,↓oLt,↓oLe,↓oGt,↓oGe,↓oAbs,↓oMin,↓cMinL,↓cSortedD,↓dSl,↓oNo,↓oSo,↓dBy,↓dD0,↓cLZ,↓dEnum,↓fMulT,↓cReprX,↓dRaise,↓dRaise0,↓dStop,↓dDropX,↓dAsgX,↓dTup2X,↓dCallX,↓dXval,↓dTry,↓dHand,↓dAs,↓gAs,↓Gs.unset,↓rtN,↓dLam,↓dAct,↓lamF,↓gLam,↓plainO,↓Z.isNon,↓dIfT,b__law_value,fs__law_draw,fs__law_odd_value,fs__law_chain,ent,svOf,List.map_cons,List.map_nil,List.cons_append,List.nil_append,List.append_nil,List.replicate,List.length_cons,List.length_nil,List.getElem?_cons_zero,List.getElem?_cons_succ,List.getElem?_nil,List.set_cons_zero,List.set_cons_succ,Option.map_some,Option.map_none,Option.isNone_some,Option.isNone_none,forall_const,true_implies,false_implies,and_true,true_and,Bool.true_eq_false,Bool.false_eq_true,reduceCtorEq,noOwn,wipeS,hide,fuN_self,lcD,dYes,Nat.zero_add,Nat.reduceAdd,Nat.reduceLeDiff,Nat.reduceSub,atI_0,atI_1,atI_2,atI_3,atI_4,atI_5,Int.one_mul,eqv_ii,eqv_ss,eqv_num,shaped_int,shaped_num,shaped_none,shaped_ru,flat_str,flat_int,flat_none,List.all_cons,List.all_nil,Bool.and_true,decide_eq_true_eq,decide_eq_false_iff_not,Bool.not_eq_true',Bool.not_eq_false',Decidable.not_not,↓reduceIte,Bool.false_eq_true,Int.reduceLT,eqv_strs,pick_0,pick_01,pick_10,pick_012,pick_021,pick_102,pick_120,pick_201,pick_210]
  refine ⟨_, m, rfl, rfl, by decide, Bn.small (by decide) (by decide) (by decide), fun i i0 i1 => ⟨fun _ => ⟨m - 1, by congr 1; omega, fun d hd => ho d _ (by omega) hd⟩, fun _ => ⟨last, most, far, m, rfl, rfl, h1, h2, h3, h4, h5, h6, hc⟩⟩⟩
section
variable {P : Program} {w : World} {K : Fg} {mg : Str → Option Value} {base : Heap}
theorem d__law_value (T : Tx w K mg) {cdv : Value} {A : Around} {outer : List Env} {s : Shared} {H : Hp} {E : XK} (hr : Room 4 (A.deeper (envOfC "_law_value" (defScope st__law_value) s.heap.objs.size T.f__law_value cdv))) (hgd : (A.deeper (envOfC "_law_value" (defScope st__law_value) s.heap.objs.size T.f__law_value cdv)).guards = some []) :
    PSs (cxOf CX0 P w K mg base N__law_value "_law_value" (defScope st__law_value) T.f__law_value cdv A outer s H E).nox (defBody st__law_value) (upS K W0 b__law_value) :=
  (ss_one (s_ret (e_if (t_eq hr.units (e_call (ok__law_draw T) (hr.mono (by decide)) hgd (by rfl) T.g__law_draw T.F__law_draw.kp T.b__law_draw pass0 (a_cons (e_var 0 (pv 0)) (a_cons e_int a_nil))) e_int) (e_call (ok__law_odd_value T) (hr.mono (by decide)) hgd (by rfl) T.g__law_odd_value T.F__law_odd_value.kp T.b__law_odd_value pass0 (a_cons (e_var 0 (pv 0)) a_nil)) (e_call (ok__law_chain T) (hr.mono (by decide)) hgd (by rfl) T.g__law_chain T.F__law_chain.kp T.b__law_chain pass0 (a_cons (e_var 0 (pv 0)) (a_cons (e_var 1 (pv 1)) (a_cons (e_var 2 (pv 2)) (a_cons (e_var 3 (pv 3)) a_nil))))))))
theorem ok__law_value (T : Tx w K mg) : Fn P w K mg base CX0 5 T.f__law_value T.fd__law_value ["_law_source_here", "_law_last", "_law_most", "_law_far"] (lift K 4 fs__law_value) := fn_data T.F__law_value sc__law_value b__law_value (fun _ _ _ _ _ _ hr hgd => d__law_value T hr hgd) p__law_value
end
def b__law_caught (L : Kd) (fA : FSp) : DS :=
  (dSeq (dAsg (dC .none) (dN 1))
  (dSeq (dTry ["DifferentWidths", "InvalidChain"]
    (dAsgX 1 (dTup2X (.str "returned") (dAct L fA)))
    (("InvalidChain", some 2, (dAsg (dTup (dCons (dC (.str "invalid")) (dCons (dXval ["InvalidChain"] (dVar 2)) dNil))) (dN 1))) :: (("DifferentWidths", none, (dAsg (dTup (dCons (dC (.str "different")) dNil)) (dN 1))) :: [])))
  (dRet (dVar 1))))
def fs__law_caught (L : Kd) (fA : FSp) : FSp := fun rs fu post => rs = [.ob L] ∧ fu = none ∧ b__law_caught L fA ⟨fun g => post (.val .none) g.fu, rtN post, fun _ => False, fun _ => False⟩ (ent N__law_caught [.ob L] none)
section
variable {P : Program} {w : World} {K : Fg} {mg : Str → Option Value} {base : Heap}
theorem d__law_caught (T : Tx w K mg) (L : Kd) (fA : FSp) {cdv : Value} {A : Around} {outer : List Env} {s : Shared} {H : Hp} (hr : Room 10 (A.deeper (envOfC "_law_caught" (defScope st__law_caught) s.heap.objs.size T.f__law_caught cdv))) (hgd : A.guards = some [])
    (act : ∀ (W : WX) (pn : List (Addr × Obj)) (xe : Value → Shared → Prop) (p1 p2 : Pos), Takes ((cxOf CX0 P w K mg base N__law_caught "_law_caught" (defScope st__law_caught) T.f__law_caught cdv A outer s H C8.E0).tr pn xe) W → PE ((cxOf CX0 P w K mg base N__law_caught "_law_caught" (defScope st__law_caught) T.f__law_caught cdv A outer s H C8.E0).tr pn xe) (.Call (.Name "_law_ask" p1) [] [] p2) (upX K W (dAct L fA))) :
    PSs (cxOf CX0 P w K mg base N__law_caught "_law_caught" (defScope st__law_caught) T.f__law_caught cdv A outer s H C8.E0).nox (defBody st__law_caught) (upS K WF (b__law_caught L fA)) :=
  (ss_cons (s_set (i := 1) sc__law_caught.nd rfl (.inl rfl) e_non)
    (ss_cons (s_try (xs := ["DifferentWidths", "InvalidChain"]) rfl rfl rfl sc__law_caught.nd takes_none5 (fun W pn xe tk pw => (ss_one (s_setX (i := 1) sc__law_caught.nd rfl (.inl rfl) (x_tup2 pe_str (fun _ => .str _) (act W pn xe _ _ tk))))) (.as (i := 2) ⟨⟨by rfl, by decide, .inl T.g_InvalidChain⟩, T.hx_InvalidChain⟩ rfl rfl (fun a pn => (ss_one (s_set (i := 1) sc__law_caught.nd rfl (.inl rfl) (e_tup (a_cons e_str (a_cons (e_xval T.hv (e_var 2 (pv 2))) a_nil)))))) (.no ⟨⟨by rfl, by decide, .inl T.g_DifferentWidths⟩, T.hx_DifferentWidths⟩ (fun a pn => (ss_one (s_set (i := 1) sc__law_caught.nd rfl (.inl rfl) (e_tup (a_cons e_str a_nil))))) .nil)))
    (ss_one (s_ret (e_var 1 (pv 1))))))
end
def b__law_due : DS :=
  (dSeq (dIfS (dNotT (dTest (dCall 1 fs__law_is_chain (dCons (dVar 0) dNil))))
    (dRet (dTup (dCons (dC (.str "invalid")) (dCons (dVar 0) dNil))))
    dNext)
  (dSeq (dIfS (dNotT (dTest (dCall 1 fs__law_is_chain (dCons (dVar 1) dNil))))
    (dRet (dTup (dCons (dC (.str "invalid")) (dCons (dVar 1) dNil))))
    dNext)
  (dRet (dIf (dAndT (dTest (dVar 2)) (dTest (dBin fNe (dCall 1 fs__law_least (dCons (dVar 0) dNil)) (dCall 1 fs__law_least (dCons (dVar 1) dNil))))) (dTup (dCons (dC (.str "different")) dNil)) (dC .none)))))
/-- what a call comes to -/
inductive Out
  | rt (d : Da)
  | inv (d : Da)
  | dif
def tdD : Out → Da
  | .rt d => .tuple [.str "returned", d]
  | .inv d => .tuple [.str "invalid", d]
  | .dif => .tuple [.str "different"]
def oD : Option Out → Da
  | none => .none
  | some o => tdD o
inductive Due : Da → Da → Bool → Option Out → Prop
  | a {v u : Da} {f : Bool} : isChn v = false → Due v u f (some (.inv v))
  | b {v u : Da} {f : Bool} : isChn v = true → isChn u = false → Due v u f (some (.inv u))
  | w {c c' : List (Int × Ru)} : Chn1 c → Chn1 c' → (chT c).1 ≠ (chT c').1 → Due (chD c) (chD c') true (some .dif)
  | n {c c' : List (Int × Ru)} {f : Bool} : Chn1 c → Chn1 c' → (f = true → (chT c).1 = (chT c').1) → Due (chD c) (chD c') f none
def fs__law_due : FSp := fun rs fu post => ∃ (v u : Da) (f : Bool) (o : Option Out), rs = [.val v, .val u, .val (.bool f)] ∧ layX v = true ∧ layX u = true ∧ Due v u f o ∧ post (.val (oD o)) fu
theorem p__law_due (rs : List Rv) (fu : Option Nat) (post : Rr → Option Nat → Prop) (hl : rs.length = 3) (h : fs__law_due rs fu post) : b__law_due ⟨fun g => post (.val .none) g.fu, fun r g => post r g.fu, fun _ => False, fun _ => False⟩ (ent N__law_due rs fu) := by
  obtain ⟨v, u, f, o, rfl, lv, lu, hd, h⟩ := h
  simp only [↓dSeq,↓dAsg,↓dSetL,↓dNext,↓dIfS,↓dRet,↓dRetL,↓dDrop,↓dNever,↓dAug,↓dPar,↓dParL,↓dApp,↓dVar,↓dC,↓dBin,↓fI,↓fI0,↓fAdd,↓fEq,↓fNe,↓fIn,↓dTest,↓dAndT,↓dOrT,↓dNotT,↓dAndV,↓dOrV,↓dNotV,↓dIf,↓dIsN,↓dChain,↓dNil,↓dCons,↓dTup,↓dLst,↓dFz,↓valsD,↓dIx,↓dCall,↓dCallL,↓hasSrc,↓rrv,↓dN,↓dT,↓dTn,↓dTc,↓rsv,↓Gs.set,↓dFor,↓dItems,↓dRange1,↓dLc,↓dCB,↓cLen,↓cAll,↓cTuple,↓cInt1,↓cInt2,↓dIsi,↓dSetS,↓oSub,↓oAddI,↓oMul,↓oDiv,↓oMod,↓oShl,↓oPow,↓oLt,↓oLe,↓oGt,↓oGe,↓oAbs,↓oMin,↓cMinL,↓cSortedD,↓dSl,↓oNo,↓oSo,↓dBy,↓dD0,↓cLZ,↓dEnum,↓fMulT,↓cReprX,↓dRaise,↓dRaise0,↓dStop,↓dDropX,↓dAsgX,↓dTup2X,↓dCallX,↓dXval,↓dTry,↓dHand,↓dAs,↓gAs,↓Gs.unset,↓rtN,↓dLam,↓dAct,↓lamF,↓gLam,↓plainO,↓Z.isNon,↓dIfT,b__law_due,fs__law_is_chain,fs__law_least,ent,svOf,List.map_cons,List.map_nil,List.cons_append,List.nil_append,List.append_nil,List.replicate,List.length_cons,List.length_nil,List.getElem?_cons_zero,List.getElem?_cons_succ,List.getElem?_nil,List.set_cons_zero,List.set_cons_succ,Option.map_some,Option.map_none,Option.isNone_some,Option.isNone_none,forall_const,true_implies,false_implies,and_true,true_and,Bool.true_eq_false,Bool.false_eq_true,reduceCtorEq,noOwn,wipeS,hide,fuN_self,lcD,dYes,Nat.zero_add,Nat.reduceAdd,Nat.reduceLeDiff,Nat.reduceSub,atI_0,atI_1,atI_2,atI_3,atI_4,atI_5,Int.one_mul,eqv_ii,eqv_ss,eqv_num,shaped_int,shaped_num,shaped_none,shaped_ru,flat_str,flat_int,flat_none,List.all_cons,List.all_nil,Bool.and_true,decide_eq_true_eq,decide_eq_false_iff_not,Bool.not_eq_true',Bool.not_eq_false',Decidable.not_not,↓reduceIte,Bool.false_eq_true,Int.reduceLT,eqv_strs,pick_0,pick_01,pick_10,pick_012,pick_021,pick_102,pick_120,pick_201,pick_210]
  refine ⟨v, rfl, lv, fun q => ?_, fun q => ?_⟩
  · cases hd with
    | a hv => exact h
    | b hv hu => rw [hv] at q; cases q
    | w hc hc' hw => rw [hc.is] at q; cases q
    | n hc hc' hw => rw [hc.is] at q; cases q
  · refine ⟨u, rfl, lu, fun q2 => ?_, fun q2 => ?_⟩
    · cases hd with
      | a hv => rw [hv] at q; cases q
      | b hv hu => exact h
      | w hc hc' hw => rw [hc'.is] at q2; cases q2
      | n hc hc' hw => rw [hc'.is] at q2; cases q2
    · cases hd with
      | a hv => rw [hv] at q; cases q
      | b hv hu => rw [hu] at q2; cases q2
      | @w c c' hc hc' hw => exact ⟨fun _ => ⟨c, rfl, hc, c', rfl, hc', fun _ => h, fun z => absurd z hw⟩, fun z => (by cases z)⟩
      | @n c c' _ hc hc' hw =>
        cases f with
        | false => exact ⟨fun z => (by cases z), fun _ => h⟩
        | true => exact ⟨fun _ => ⟨c, rfl, hc, c', rfl, hc', fun z => absurd (hw rfl) z, fun _ => h⟩, fun z => (by cases z)⟩
section
variable {P : Program} {w : World} {K : Fg} {mg : Str → Option Value} {base : Heap}
theorem d__law_due (T : Tx w K mg) {cdv : Value} {A : Around} {outer : List Env} {s : Shared} {H : Hp} {E : XK} (hr : Room 2 (A.deeper (envOfC "_law_due" (defScope st__law_due) s.heap.objs.size T.f__law_due cdv))) (hgd : (A.deeper (envOfC "_law_due" (defScope st__law_due) s.heap.objs.size T.f__law_due cdv)).guards = some []) :
    PSs (cxOf CX0 P w K mg base N__law_due "_law_due" (defScope st__law_due) T.f__law_due cdv A outer s H E).nox (defBody st__law_due) (upS K W0 b__law_due) :=
  (ss_cons (s_if (t_not (t_val (e_call (ok__law_is_chain T) (hr.mono (by decide)) hgd (by rfl) T.g__law_is_chain T.F__law_is_chain.kp T.b__law_is_chain pass0 (a_cons (e_var 0 (pv 0)) a_nil)))) (ss_one (s_ret (e_tup (a_cons e_str (a_cons (e_var 0 (pv 0)) a_nil))))) ss_nil)
    (ss_cons (s_if (t_not (t_val (e_call (ok__law_is_chain T) (hr.mono (by decide)) hgd (by rfl) T.g__law_is_chain T.F__law_is_chain.kp T.b__law_is_chain pass0 (a_cons (e_var 1 (pv 1)) a_nil)))) (ss_one (s_ret (e_tup (a_cons e_str (a_cons (e_var 1 (pv 1)) a_nil))))) ss_nil)
    (ss_one (s_ret (e_if (PW.pt (w_and (t_val (e_var 2 (pv 2))) (w_and1 (t_ne hr.units (e_call (ok__law_least T) (hr.mono (by decide)) hgd (by rfl) T.g__law_least T.F__law_least.kp T.b__law_least pass0 (a_cons (e_var 0 (pv 0)) a_nil)) (e_call (ok__law_least T) (hr.mono (by decide)) hgd (by rfl) T.g__law_least T.F__law_least.kp T.b__law_least pass0 (a_cons (e_var 1 (pv 1)) a_nil)))))) (e_tup (a_cons e_str a_nil)) e_non)))))
theorem ok__law_due (T : Tx w K mg) : Fn P w K mg base CX0 3 T.f__law_due T.fd__law_due ["_law_one", "_law_other", "_law_compares_widths"] (lift K 3 fs__law_due) := fn_data T.F__law_due sc__law_due b__law_due (fun _ _ _ _ _ _ hr hgd => d__law_due T hr hgd) p__law_due
end
def b_law : DS :=
  (dSeq (dFor (dRange1 (dBin fAdd (dC (.int 1)) (dCB oMin (dCons (dC (.int 2)) (dCons (dCB cLen (dCons (dVar 0) dNil)) dNil))))) (dN 1)
    (dSeq (dSetS 1000000 2 (dCallL 2 fs__law_source (dCons (dVar 0) (dCons (dVar 1) dNil))))
  (dFor (dRange1 (dC (.int 8))) (dN 3)
    (dSeq (dAsg (dCall 4 fs__law_value (dCons (dVar 2) (dCons (dBin fAdd (dC (.int 2)) (dCall 2 fs__law_draw (dCons (dVar 2) (dCons (dC (.int 2)) dNil)))) (dCons (dC (.int 3)) (dCons (dC (.int 4)) dNil))))) (dN 4))
  (dSeq (dAsg (dCall 4 fs__law_value (dCons (dVar 2) (dCons (dBin fAdd (dC (.int 2)) (dCall 2 fs__law_draw (dCons (dVar 2) (dCons (dC (.int 2)) dNil)))) (dCons (dC (.int 3)) (dCons (dC (.int 4)) dNil))))) (dN 5))
  (dSeq (dSetL 6 (dLst (dCons (dLam fs__law_caught (dCallX 2 (orF fs_same fs_sameX) (dCons (dVar 4) (dCons (dVar 5) dNil)))) dNil)))
  (dSeq (dApp 6 (dLam fs__law_caught (dCallX 2 (orF fs_zones fs_zonesX) (dCons (dVar 4) (dCons (dVar 5) dNil)))))
  (dSeq (dApp 6 (dLam fs__law_caught (dCallX 2 (orF fs_simplest_difference fs_simplest_differenceX) (dCons (dVar 4) (dCons (dVar 5) dNil)))))
  (dSeq (dFor (dEnumZ (dVar 6) (dTup (dCons (dC (.bool false)) (dCons (dC (.bool true)) (dCons (dC (.bool true)) dNil))))) (dT 2 (dTc (dN 7) (dTc (dT 2 (dTc (dN 8) (dTc (dN 9) dTn))) dTn)))
    (dSeq (dAsg (dCall 3 fs__law_due (dCons (dVar 4) (dCons (dVar 5) (dCons (dVar 9) dNil)))) (dN 10))
  (dIfS (dIfT (dTest (dIsN false (dVar 10))) (dTest (dBin fNe (dIx (dVar 8) (dC (.int 0))) (dC (.str "returned")))) (dTest (dBin fNe (dCB cReprX (dCons (dVar 8) dNil)) (dCB cReprX (dCons (dVar 10) dNil)))))
    (dRet (dC (.bool false)))
    dNext)))
  (dIfS (dTest (dIsN false (dCall 3 fs__law_due (dCons (dVar 4) (dCons (dVar 5) (dCons (dC (.bool true)) dNil))))))
    (dSeq (dAsg (dFz (dLst (dCons (dCall 2 fs_same (dCons (dVar 5) (dCons (dVar 4) dNil))) (dCons (dCall 2 fs_zones (dCons (dVar 5) (dCons (dVar 4) dNil))) (dCons (dCall 2 fs_simplest_difference (dCons (dVar 5) (dCons (dVar 4) dNil))) dNil))))) (dN 11))
  (dIfS (dTest (dBin fNe (dCB cReprX (dCons (dVar 11) dNil)) (dCB cReprX (dCons (dFz (dLc [8] (dItems (dVar 6)) (dN 8) dYes (dIx (dVar 8) (dC (.int 1))))) dNil))))
    (dRet (dC (.bool false)))
    dNext))
    (dIfS (dAndT (dTest (dIsN false (dCall 3 fs__law_due (dCons (dVar 4) (dCons (dVar 5) (dCons (dC (.bool false)) dNil)))))) (dTest (dBin fNe (dIx (dVar 6) (dC (.int 0))) (dTup (dCons (dC (.str "returned")) (dCons (dC (.bool false)) dNil))))))
    (dRet (dC (.bool false)))
    dNext)))))))))))
  (dRet (dC (.bool true))))
def fs_law : FSp := fun rs fu post => ∃ ns : List Int, rs = [.scr ns] ∧ fu = none ∧ ∀ fu', post (.val (.bool true)) fu'
def rrO : Out → Rr
  | .rt d => .val d
  | .inv d => .exc "InvalidChain" (some d)
  | .dif => .exc "DifferentWidths" none
theorem p_caught {g : Gs} {Q : Rv → Gs → Prop} {t : DX} {S : Out → Prop}
    (ht : ∀ post : Rr → Prop, (∀ o, S o → post (rrO o)) → t (gLam g) fun r _ => post r) (h : ∀ o, S o → Q (.val (tdD o)) g) :
    dLam fs__law_caught t g Q := by
  intro L
  refine ⟨rfl, rfl, ?_⟩
  simp only [↓dSeq,↓dAsg,↓dSetL,↓dNext,↓dIfS,↓dRet,↓dRetL,↓dDrop,↓dNever,↓dAug,↓dPar,↓dParL,↓dApp,↓dVar,↓dC,↓dBin,↓fI,↓fI0,↓fAdd,↓fEq,↓fNe,↓fIn,↓dTest,↓dAndT,↓dOrT,↓dNotT,↓dAndV,↓dOrV,↓dNotV,↓dIf,↓dIsN,↓dChain,↓dNil,↓dCons,↓dTup,↓dLst,↓dFz,↓valsD,↓dIx,↓dCall,↓dCallL,↓hasSrc,↓rrv,↓dN,↓dT,↓dTn,↓dTc,↓rsv,↓Gs.set,↓dFor,↓dItems,↓dRange1,↓dLc,↓dCB,↓cLen,↓cAll,↓cTuple,↓cInt1,↓cInt2,↓dIsi,↓dSetS,↓oSub,↓oAddI,↓oMul,↓oDiv,↓oMod,↓oShl,↓oPow,↓oLt,↓oLe,↓oGt,↓oGe,↓oAbs,↓oMin,↓cMinL,↓cSortedD,↓dSl,↓oNo,↓oSo,↓dBy,↓dD0,↓cLZ,↓dEnum,↓fMulT,↓cReprX,↓dRaise,↓dRaise0,↓dStop,↓dDropX,↓dAsgX,↓dTup2X,↓dCallX,↓dXval,↓dTry,↓dHand,↓dAs,↓gAs,↓Gs.unset,↓rtN,↓dLam,↓dAct,↓lamF,↓gLam,↓plainO,↓Z.isNon,↓dIfT,b__law_caught,ent,svOf,List.map_cons,List.map_nil,List.cons_append,List.nil_append,List.append_nil,List.replicate,List.length_cons,List.length_nil,List.getElem?_cons_zero,List.getElem?_cons_succ,List.getElem?_nil,List.set_cons_zero,List.set_cons_succ,Option.map_some,Option.map_none,Option.isNone_some,Option.isNone_none,forall_const,true_implies,false_implies,and_true,true_and,Bool.true_eq_false,Bool.false_eq_true,reduceCtorEq,noOwn,wipeS,hide,fuN_self,lcD,dYes,Nat.zero_add,Nat.reduceAdd,Nat.reduceLeDiff,Nat.reduceSub,atI_0,atI_1,atI_2,atI_3,atI_4,atI_5,Int.one_mul,eqv_ii,eqv_ss,eqv_num,shaped_int,shaped_num,shaped_none,shaped_ru,flat_str,flat_int,flat_none,List.all_cons,List.all_nil,Bool.and_true,decide_eq_true_eq,decide_eq_false_iff_not,Bool.not_eq_true',Bool.not_eq_false',Decidable.not_not,↓reduceIte,Bool.false_eq_true,Int.reduceLT,eqv_strs,pick_0,pick_01,pick_10,pick_012,pick_021,pick_102,pick_120,pick_201,pick_210]
  refine ht _ fun o ho => ?_
  have e1 : xsub (Str.ofString "InvalidChain") (Str.ofString "InvalidChain") = true := by decide +kernel
  have e2 : xsub (Str.ofString "DifferentWidths") (Str.ofString "InvalidChain") = false := by decide +kernel
  have e3 : xsub (Str.ofString "DifferentWidths") (Str.ofString "DifferentWidths") = true := by decide +kernel
  have m1 : Str.ofString "InvalidChain" ∈ [Str.ofString "DifferentWidths", Str.ofString "InvalidChain"] := by simp
  have m2 : Str.ofString "DifferentWidths" ∈ [Str.ofString "DifferentWidths", Str.ofString "InvalidChain"] := by simp
  cases o with
  | rt d => exact h _ ho
  | inv d => exact ⟨m1, fun _ => ⟨List.mem_cons_self, h _ ho⟩, fun z => absurd z (by rw [e1]; decide)⟩
  | dif => exact ⟨m2, fun z => absurd z (by rw [e2]; decide), fun _ => ⟨fun _ => h _ ho, fun z => absurd z (by rw [e3]; decide)⟩⟩
theorem layX_ch {c : List (Int × Ru)} : layX (chD c) = true := by
  have : ∀ c : List (Int × Ru), layXs (c.map stD) = true := fun c => by
    induction c with
    | nil => rfl
    | cons s c ih =>
      have r : PyData.strOk s.2.s = true := by cases s.2 <;> decide +kernel
      simp [layXs, ih, stD, layX, r]
  exact this c
theorem st_v {s : Int × Ru} (h0 : 1 ≤ s.1) (h1 : s.1 ≤ 100) : (stD s).showable = true ∧ (stD s).depth ≤ 3 ∧ szX (stD s) ≤ 3000 := by
  have b : Bn 1900 s.1 := Bn.small (by omega) (by omega) (by decide)
  have sb := showI b
  have r : PyData.strOk s.2.s = true := by cases s.2 <;> decide +kernel
  have r2 : s.2.s.length ≤ 20 := by cases s.2 <;> decide +kernel
  refine ⟨by simp [stD, PyData.showable, PyData.showableAll, sb], by show 1 ≤ 3; decide, ?_⟩
  simp only [stD, szX, szXs]
  omega
theorem shx_c {c : List (Int × Ru)} (hc : Chn1 c) : ShX (chD c) := by
  have k : ∀ c : List (Int × Ru), (∀ s ∈ c, 1 ≤ s.1 ∧ s.1 ≤ 100) → PyData.showableAll (c.map stD) = true ∧ PyData.depthAll (c.map stD) ≤ 3 ∧ szXs (c.map stD) ≤ 3002 * c.length := fun c => by
    induction c with
    | nil => exact fun _ => ⟨rfl, by simp [PyData.depthAll], by simp [szXs]⟩
    | cons s c ih =>
      intro h
      obtain ⟨a, b, d⟩ := ih fun s hs => h s (List.mem_cons_of_mem _ hs)
      obtain ⟨x, y, z⟩ := st_v (h s List.mem_cons_self).1 (h s List.mem_cons_self).2
      refine ⟨by simp [PyData.showableAll, x, a], by simp only [List.map_cons, PyData.depthAll]; omega, ?_⟩
      simp only [List.map_cons, szXs, List.length_cons]
      omega
  obtain ⟨a, b, d⟩ := k c hc.w
  have l := hc.len
  refine ⟨layX_ch, by simpa [chD, PyData.showable] using a, by simp only [chD, PyData.depth]; omega, ?_⟩
  simp only [chD, szX]
  omega
theorem shx_inv {d : Da} (h : OddC d) : ShX (tdD (.inv d)) := by
  have p : PyData.strOk (Str.ofString "invalid") = true := by decide +kernel
  have pl : (Str.ofString "invalid").length ≤ 10 := by decide +kernel
  have hs := h.sz
  have hd := h.dp
  refine ⟨by simp [tdD, layX, layXs, p, h.sh.lay], by simp [tdD, PyData.showable, PyData.showableAll, h.sh.sh], ?_, ?_⟩
  · simp only [tdD, PyData.depth, PyData.depthAll]
    omega
  · simp only [tdD, szX, szXs]
    omega
theorem shx_dif : ShX (tdD .dif) := by
  have k : layX (tdD .dif) = true ∧ PyData.showable (tdD .dif) = true ∧ PyData.depth (tdD .dif) ≤ 50 ∧ szX (tdD .dif) ≤ 1000000 := by decide +kernel
  exact ⟨k.1, k.2.1, Nat.le_trans k.2.2.1 (by decide), Nat.le_trans k.2.2.2 (by decide)⟩
theorem eqv_num2 (a b c d : Int) (s t : Str) : (PyData.tuple [.tuple [.int a, .int b], .str s]).eqv (.tuple [.tuple [.int c, .int d], .str t]) = (decide (a = c) && decide (b = d) && decide (s = t)) := by
  simp only [PyData.eqv, PyData.eqvAll]
  rw [Bool.eq_iff_iff]
  simp
theorem eqv_two (a b c d : Da) : (PyData.tuple [a, b]).eqv (.tuple [c, d]) = (a.eqv c && b.eqv d) := by
  simp only [PyData.eqv, PyData.eqvAll, Bool.and_true]
theorem thD_comm (t u : Th) : (thD t).eqv (thD u) = (thD u).eqv (thD t) := by
  unfold thD num
  rw [eqv_num2, eqv_num2, Bool.eq_iff_iff]
  simp only [Bool.and_eq_true, decide_eq_true_eq]
  exact ⟨fun ⟨⟨a, b⟩, c⟩ => ⟨⟨a.symm, b.symm⟩, c.symm⟩, fun ⟨⟨a, b⟩, c⟩ => ⟨⟨a.symm, b.symm⟩, c.symm⟩⟩
theorem prD_comm (w : Int) (T U : Bool → Th) : (Z.prD w T).eqv (Z.prD w U) = (Z.prD w U).eqv (Z.prD w T) := by
  unfold Z.prD
  rw [eqv_two, eqv_two, thD_comm (T true)]
  split
  · rfl
  · rw [thD_comm (T false)]
theorem same_comm {c c' : List (Int × Ru)} (h : (chT c).1 = (chT c').1) : sameB c' c = sameB c c' := by
  unfold sameB
  rw [← h, prD_comm]
theorem same_no {c c' : List (Int × Ru)} (h : (chT c).1 ≠ (chT c').1) : sameB c c' = false := by
  unfold sameB
  rw [decide_eq_false h]
  rfl
theorem bef_anti {t u : Th} (h : Bef t u) : ¬Bef u t := by
  unfold Bef at *
  rintro (q | ⟨q1, q2, q3⟩)
  · rcases h with h | ⟨h1, h2, h3⟩ <;> omega
  · rcases h with h | ⟨h1, h2, h3⟩
    · omega
    · rw [h2] at q3
      cases q3
theorem zo_comm {t u : Th} (ht : t.Ok) (hu : u.Ok) (gt : Int.gcd t.n t.d = 1) (gu : Int.gcd u.n u.d = 1) : zoD u t = zoD t u := by
  unfold zoD
  by_cases e : t = u
  · rw [if_pos e, if_pos e.symm]
  · rw [if_neg e, if_neg fun z => e z.symm]
    by_cases b : Bef t u
    · rw [if_pos b, if_neg (bef_anti b)]
    · rw [if_neg b, if_pos (bef_total ht hu gt gu e b)]
theorem zn_comm {w : Int} {T U : Bool → Th} (hT : ThB 101 T) (hU : ThB 101 U) : znD w U T = znD w T U := by
  unfold znD
  rw [zo_comm (hT.ok true) (hU.ok true) (hT.g true) (hU.g true), zo_comm (hT.ok false) (hU.ok false) (hT.g false) (hU.g false)]
/-- what simplest_difference may return -/
def SDok (c c' : List (Int × Ru)) (d : Da) : Prop := (((chT c).1 ≠ 1 → (chT c).2 false = (chT c').2 false) ∧ (chT c).2 true = (chT c').2 true ∧ d = .none) ∨ ∃ (t : Nat) (b : Bool) (j : Int), SdAt (chT c).1 (chT c).2 (chT c').2 t b j ∧ d = lowD (sdk (chT c).1 b * 2 ^ t + j) (2 ^ t)
theorem dif_symm {T U : Bool → Th} {b : Bool} {i p : Int} (h : Dif T U b i p) : Dif U T b i p := fun q => h q.symm
theorem sd_no {w : Int} {T U : Bool → Th} {t : Nat} {b : Bool} {j : Int} (h1 : w ≠ 1 → T false = U false) (h2 : T true = U true) (h : SdAt w T U t b j) : False := by
  have d := h.dif
  cases b with
  | true =>
    unfold Dif at d
    rw [h2] at d
    exact d Iff.rfl
  | false =>
    have : w ≠ 1 := fun e => Bool.noConfusion (h.b1 e)
    unfold Dif at d
    rw [h1 this] at d
    exact d Iff.rfl
theorem sdat_symm {w : Int} {T U : Bool → Th} {t : Nat} {b : Bool} {j : Int} (h : SdAt w T U t b j) : SdAt w U T t b j :=
  ⟨h.b1, dif_symm h.dif, h.lo, h.hi, fun i hi => h.min i (dif_symm hi), fun e n i hi => h.par e n i (dif_symm hi), fun t' ht b' hb i hi => h.pre t' ht b' hb i (dif_symm hi), h.tb⟩
theorem sdat_uniq {w : Int} {T U : Bool → Th} {t t' : Nat} {b b' : Bool} {j j' : Int} (h : SdAt w T U t b j) (h' : SdAt w T U t' b' j') : t = t' ∧ b = b' ∧ j = j' := by
  obtain rfl : t = t' := by
    rcases Nat.lt_trichotomy t t' with q | q | q
    · exact absurd h.dif (h'.pre t q b h.b1 j)
    · exact q
    · exact absurd h'.dif (h.pre t' q b' h'.b1 j')
  obtain rfl : b = b' := by
    cases b with
    | true =>
      cases b' with
      | true => rfl
      | false => exact absurd h'.dif (h.par rfl (fun e => Bool.noConfusion (h'.b1 e)) j')
    | false =>
      cases b' with
      | false => rfl
      | true => exact absurd h.dif (h'.par rfl (fun e => Bool.noConfusion (h.b1 e)) j)
  have a := h.min j' h'.dif
  have a' := h'.min j h.dif
  exact ⟨rfl, rfl, by omega⟩
theorem sd_uniq {c c' : List (Int × Ru)} {d e : Da} (hw : (chT c).1 = (chT c').1) (h : SDok c c' d) (h' : SDok c' c e) : e = d := by
  rcases h with ⟨h1, h2, rfl⟩ | ⟨t, b, j, s, rfl⟩
  · rcases h' with ⟨_, _, rfl⟩ | ⟨t, b, j, s, rfl⟩
    · rfl
    · rw [← hw] at s
      exact (sd_no h1 h2 (sdat_symm s)).elim
  · rcases h' with ⟨h1, h2, rfl⟩ | ⟨t', b', j', s', rfl⟩
    · rw [hw] at s
      exact (sd_no h1 h2 (sdat_symm s)).elim
    · rw [← hw] at s' ⊢
      obtain ⟨rfl, rfl, rfl⟩ := sdat_uniq s (sdat_symm s')
      rfl
theorem sd_has {c c' : List (Int × Ru)} {post : Rr → Prop} (h : ∀ d, SDok c c' d → post (.val d)) : (((chT c).1 ≠ 1 → (chT c).2 false = (chT c').2 false) → (chT c).2 true = (chT c').2 true → post (.val .none)) ∧
    ∀ (t : Nat) (b : Bool) (j : Int), SdAt (chT c).1 (chT c).2 (chT c').2 t b j → post (.val (lowD (sdk (chT c).1 b * 2 ^ t + j) (2 ^ t))) :=
  ⟨fun h1 h2 => h _ (.inl ⟨h1, h2, rfl⟩), fun t b j s => h _ (.inr ⟨t, b, j, s, rfl⟩)⟩
theorem shx_back {c c' : List (Int × Ru)} {d : Da} {b : Bool} (hc : Chn1 c) (hc' : Chn1 c') (h : SDok c c' d) : ShX (.list [.bool b, znD (chT c).1 (chT c).2 (chT c').2, d]) := by
  obtain ⟨hT, w1, w2⟩ := chT_B hc.ne hc.w
  obtain ⟨hU, _, _⟩ := chT_B hc'.ne hc'.w
  obtain ⟨sz, _⟩ := sh_zn (w := (chT c).1) hT hU
  have zo : ∀ t u : Th, layX (zoD t u) = true ∧ (zoD t u).depth ≤ 3 ∧ szX (zoD t u) ≤ 9000 := fun t u => by
    unfold zoD
    split
    · exact ⟨rfl, by show 0 ≤ 3; decide, by show 4 ≤ 9000; decide⟩
    · split <;> exact ⟨rfl, by show 2 ≤ 3; decide, by show (1921 + 2 + (1921 + 2 + 0) + 3) + 2 + ((1921 + 2 + (1921 + 2 + 0) + 3) + 2 + (5 + 2 + (5 + 2 + 0))) + 3 ≤ 9000; decide⟩
  have zn : layX (znD (chT c).1 (chT c).2 (chT c').2) = true ∧ (znD (chT c).1 (chT c).2 (chT c').2).depth ≤ 4 ∧ szX (znD (chT c).1 (chT c).2 (chT c').2) ≤ 20000 := by
    obtain ⟨a1, a2, a3⟩ := zo ((chT c).2 true) ((chT c').2 true)
    obtain ⟨b1, b2, b3⟩ := zo ((chT c).2 false) ((chT c').2 false)
    unfold znD
    split
    · refine ⟨by simp [layX, layXs, a1], by simp only [PyData.depth, PyData.depthAll]; omega, by simp only [szX, szXs]; omega⟩
    · refine ⟨by simp [layX, layXs, a1, b1], by simp only [PyData.depth, PyData.depthAll]; omega, by simp only [szX, szXs]; omega⟩
  have dd : layX d = true ∧ d.showable = true ∧ d.depth ≤ 3 ∧ szX d ≤ 9000 := by
    rcases h with ⟨_, _, rfl⟩ | ⟨t, b, j, s, rfl⟩
    · exact ⟨rfl, rfl, by show 0 ≤ 3; decide, by show 4 ≤ 9000; decide⟩
    · have P := pow2_pos t
      have lo := s.lo
      have hi := s.hi
      have tb := s.tb
      have bP : Bn 200 ((2 : Int) ^ t) := Bn.pow2 (by omega)
      have bS : Bn 110 ((2 : Int) ^ ((chT c).1 - 1).toNat) := Bn.pow2 (by omega)
      have S := pow2_pos ((chT c).1 - 1).toNat
      have kb : Bn 112 (sdk (chT c).1 b) := by
        unfold sdk
        exact (bS.add (Bn.small (by omega) (by omega) (by decide))).mono (by decide)
      have k0 : 0 < sdk (chT c).1 b := by
        unfold sdk
        omega
      have nb : Bn 400 (sdk (chT c).1 b * 2 ^ t + j) := ((kb.mul bP).add ((bP.le (by omega) (by omega)).mono (by decide))).mono (by decide)
      have n0 : 0 ≤ sdk (chT c).1 b * 2 ^ t + j := by
        have := Int.mul_pos k0 P
        omega
      obtain ⟨l1, l2⟩ := low_le (d := 2 ^ t) n0 P
      obtain ⟨g1, g2, g3⟩ := low_gcd (n := sdk (chT c).1 b * 2 ^ t + j) P
      have s1 := showI ((nb.le l1 l2).mono (show 400 ≤ 1900 by decide))
      have s2 := showI ((bP.le (by omega) g3).mono (show 200 ≤ 1900 by decide))
      refine ⟨rfl, ?_, by show 1 ≤ 3; decide, by show 1921 + 2 + (1921 + 2 + 0) + 3 ≤ 9000; decide⟩
      unfold lowD num
      simp [PyData.showable, PyData.showableAll, s1, s2]
  refine ⟨by simp [layX, layXs, zn.1, dd.1], by simp [PyData.showable, PyData.showableAll, sz.2.1, dd.2.1], ?_, ?_⟩
  · have := zn.2.1
    have := dd.2.2.1
    simp only [PyData.depth, PyData.depthAll]
    omega
  · have := zn.2.2
    have := dd.2.2.2
    simp only [szX, szXs]
    omega
inductive VU : Da → Da → Prop
  | a {v u : Da} : OddC v → ShX u → VU v u
  | b {c : List (Int × Ru)} {u : Da} : Chn1 c → OddC u → VU (chD c) u
  | c {c c' : List (Int × Ru)} : Chn1 c → Chn1 c' → VU (chD c) (chD c')
inductive Res : Da → Da → Out → Out → Out → Prop
  | a {v u : Da} : OddC v → ShX u → Res v u (.inv v) (.inv v) (.inv v)
  | b {c : List (Int × Ru)} {u : Da} : Chn1 c → OddC u → Res (chD c) u (.inv u) (.inv u) (.inv u)
  | w {c c' : List (Int × Ru)} : Chn1 c → Chn1 c' → (chT c).1 ≠ (chT c').1 → Res (chD c) (chD c') (.rt (.bool false)) .dif .dif
  | k {c c' : List (Int × Ru)} {d : Da} : Chn1 c → Chn1 c' → (chT c).1 = (chT c').1 → SDok c c' d → Res (chD c) (chD c') (.rt (.bool (sameB c c'))) (.rt (znD (chT c).1 (chT c).2 (chT c').2)) (.rt d)
theorem VU.lay {v u : Da} (h : VU v u) : layX v = true ∧ layX u = true := by
  cases h with
  | a hv hu => exact ⟨hv.sh.lay, hu.lay⟩
  | b hc hu => exact ⟨layX_ch, hu.sh.lay⟩
  | c hc hc' => exact ⟨layX_ch, layX_ch⟩
def tS (F G : FSp) : DE := dLam fs__law_caught (dCallX 2 (orF F G) (dCons (dVar 4) (dCons (dVar 5) dNil)))
theorem p_tS {F G : FSp} {Q : Rv → Gs → Prop} {v u : Da} {S : Out → Prop} {s0 s1 s2 s3 s6 s7 s8 s9 s10 s11 : Option Sv} {fu : Option Nat} {ow : Bool}
    (hF : ∀ post : Rr → Option Nat → Prop, (∀ o, S o → post (rrO o) none) → F [.val v, .val u] none post ∨ G [.val v, .val u] none post)
    (h : ∀ o, S o → Q (.val (tdD o)) ⟨[s0, s1, s2, s3, some (.val v), some (.val u), s6, s7, s8, s9, s10, s11], fu, ow⟩) :
    tS F G ⟨[s0, s1, s2, s3, some (.val v), some (.val u), s6, s7, s8, s9, s10, s11], fu, ow⟩ Q := by
  refine p_caught (S := S) (fun post hp => ?_) h
  simp only [↓dSeq,↓dAsg,↓dSetL,↓dNext,↓dIfS,↓dRet,↓dRetL,↓dDrop,↓dNever,↓dAug,↓dPar,↓dParL,↓dApp,↓dVar,↓dC,↓dBin,↓fI,↓fI0,↓fAdd,↓fEq,↓fNe,↓fIn,↓dTest,↓dAndT,↓dOrT,↓dNotT,↓dAndV,↓dOrV,↓dNotV,↓dIf,↓dIsN,↓dChain,↓dNil,↓dCons,↓dTup,↓dLst,↓dFz,↓valsD,↓dIx,↓dCall,↓dCallL,↓hasSrc,↓rrv,↓dN,↓dT,↓dTn,↓dTc,↓rsv,↓Gs.set,↓dFor,↓dItems,↓dRange1,↓dLc,↓dCB,↓cLen,↓cAll,↓cTuple,↓cInt1,↓cInt2,↓dIsi,↓dSetS,↓oSub,↓oAddI,↓oMul,↓oDiv,↓oMod,↓oShl,↓oPow,↓oLt,↓oLe,↓oGt,↓oGe,↓oAbs,↓oMin,↓cMinL,↓cSortedD,↓dSl,↓oNo,↓oSo,↓dBy,↓dD0,↓cLZ,↓dEnum,↓fMulT,↓cReprX,↓dRaise,↓dRaise0,↓dStop,↓dDropX,↓dAsgX,↓dTup2X,↓dCallX,↓dXval,↓dTry,↓dHand,↓dAs,↓gAs,↓Gs.unset,↓rtN,↓dLam,↓dAct,↓lamF,↓gLam,↓plainO,↓Z.isNon,↓dIfT,ent,svOf,List.map_cons,List.map_nil,List.cons_append,List.nil_append,List.append_nil,List.replicate,List.length_cons,List.length_nil,List.getElem?_cons_zero,List.getElem?_cons_succ,List.getElem?_nil,List.set_cons_zero,List.set_cons_succ,Option.map_some,Option.map_none,Option.isNone_some,Option.isNone_none,forall_const,true_implies,false_implies,and_true,true_and,Bool.true_eq_false,Bool.false_eq_true,reduceCtorEq,noOwn,wipeS,hide,fuN_self,lcD,dYes,Nat.zero_add,Nat.reduceAdd,Nat.reduceLeDiff,Nat.reduceSub,atI_0,atI_1,atI_2,atI_3,atI_4,atI_5,Int.one_mul,eqv_ii,eqv_ss,eqv_num,shaped_int,shaped_num,shaped_none,shaped_ru,flat_str,flat_int,flat_none,List.all_cons,List.all_nil,Bool.and_true,decide_eq_true_eq,decide_eq_false_iff_not,Bool.not_eq_true',Bool.not_eq_false',Decidable.not_not,↓reduceIte,Bool.false_eq_true,Int.reduceLT,eqv_strs,pick_0,pick_01,pick_10,pick_012,pick_021,pick_102,pick_120,pick_201,pick_210]
  exact hF _ hp
def lS (K : DS) : DS := (dSeq (dSetL 6 (dLst (dCons (tS fs_same fs_sameX) dNil)))
  (dSeq (dApp 6 (tS fs_zones fs_zonesX))
  (dSeq (dApp 6 (tS fs_simplest_difference fs_simplest_differenceX)) K)))
theorem p_lS {K : DS} {D : DEnds} {v u : Da} {s0 s1 s2 s3 s6 s7 s8 s9 s10 s11 : Option Sv} {fu : Option Nat} {ow : Bool} (hv : VU v u)
    (h : ∀ o1 o2 o3, Res v u o1 o2 o3 → K D ⟨[s0, s1, s2, s3, some (.val v), some (.val u), some (.own [tdD o1, tdD o2, tdD o3]), s7, s8, s9, s10, s11], fu, ow⟩) :
    lS K D ⟨[s0, s1, s2, s3, some (.val v), some (.val u), s6, s7, s8, s9, s10, s11], fu, ow⟩ := by
  have ts := @p_tS
  obtain ⟨S1, S2, S3, h1, h2, h3, hR⟩ : ∃ S1 S2 S3 : Out → Prop,
      (∀ post : Rr → Option Nat → Prop, (∀ o, S1 o → post (rrO o) none) → fs_same [.val v, .val u] none post ∨ fs_sameX [.val v, .val u] none post) ∧
      (∀ post : Rr → Option Nat → Prop, (∀ o, S2 o → post (rrO o) none) → fs_zones [.val v, .val u] none post ∨ fs_zonesX [.val v, .val u] none post) ∧
      (∀ post : Rr → Option Nat → Prop, (∀ o, S3 o → post (rrO o) none) → fs_simplest_difference [.val v, .val u] none post ∨ fs_simplest_differenceX [.val v, .val u] none post) ∧
      ∀ o1 o2 o3, S1 o1 → S2 o2 → S3 o3 → Res v u o1 o2 o3 := by
    cases hv with
    | a ho hu =>
      exact ⟨fun o => o = .inv v, fun o => o = .inv v, fun o => o = .inv v, fun post hp => .inr ⟨v, u, rfl, ho.sh, hu, .inl ⟨ho.no, hp _ rfl⟩⟩, fun post hp => .inr ⟨v, u, rfl, ho.sh, hu, .inl ⟨ho.no, hp _ rfl⟩⟩, fun post hp => .inr ⟨v, u, rfl, ho.sh, hu, .inl ⟨ho.no, hp _ rfl⟩⟩, fun o1 o2 o3 e1 e2 e3 => by subst e1 e2 e3; exact .a ho hu⟩
    | @b c _ hc ho =>
      exact ⟨fun o => o = .inv u, fun o => o = .inv u, fun o => o = .inv u, fun post hp => .inr ⟨_, u, rfl, shx_c hc, ho.sh, .inr ⟨hc.is, ho.no, hp _ rfl⟩⟩, fun post hp => .inr ⟨_, u, rfl, shx_c hc, ho.sh, .inr (.inl ⟨hc.is, ho.no, hp _ rfl⟩)⟩, fun post hp => .inr ⟨_, u, rfl, shx_c hc, ho.sh, .inr (.inl ⟨hc.is, ho.no, hp _ rfl⟩)⟩, fun o1 o2 o3 e1 e2 e3 => by subst e1 e2 e3; exact .b hc ho⟩
    | @c c c' hc hc' =>
      by_cases hw : (chT c).1 = (chT c').1
      · exact ⟨fun o => o = .rt (.bool (sameB c c')), fun o => o = .rt (znD (chT c).1 (chT c).2 (chT c').2), fun o => ∃ d, SDok c c' d ∧ o = .rt d, fun post hp => .inl ⟨c, c', rfl, hc, hc', hp _ rfl⟩, fun post hp => .inl ⟨c, c', rfl, hc, hc', hw, hp _ rfl⟩, fun post hp => .inl ⟨c, c', rfl, hc, hc', hw, sd_has (post := fun r => post r none) fun d hd => hp _ ⟨d, hd, rfl⟩⟩, fun o1 o2 o3 e1 e2 e3 => by obtain ⟨d, hd, e3⟩ := e3; subst e1 e2 e3; exact .k hc hc' hw hd⟩
      · exact ⟨fun o => o = .rt (.bool false), fun o => o = .dif, fun o => o = .dif, fun post hp => .inl ⟨c, c', rfl, hc, hc', by rw [same_no hw]; exact hp _ rfl⟩, fun post hp => .inr ⟨_, _, rfl, shx_c hc, shx_c hc', .inr (.inr ⟨c, c', rfl, rfl, hc, hc', hw, hp _ rfl⟩)⟩, fun post hp => .inr ⟨_, _, rfl, shx_c hc, shx_c hc', .inr (.inr ⟨c, c', rfl, rfl, hc, hc', hw, hp _ rfl⟩)⟩, fun o1 o2 o3 e1 e2 e3 => by subst e1 e2 e3; exact .w hc hc' hw⟩
  unfold lS
  generalize lt : tS = T at ts
  simp only [↓dSeq,↓dAsg,↓dSetL,↓dNext,↓dIfS,↓dRet,↓dRetL,↓dDrop,↓dNever,↓dAug,↓dPar,↓dParL,↓dApp,↓dVar,↓dC,↓dBin,↓fI,↓fI0,↓fAdd,↓fEq,↓fNe,↓fIn,↓dTest,↓dAndT,↓dOrT,↓dNotT,↓dAndV,↓dOrV,↓dNotV,↓dIf,↓dIsN,↓dChain,↓dNil,↓dCons,↓dTup,↓dLst,↓dFz,↓valsD,↓dIx,↓dCall,↓dCallL,↓hasSrc,↓rrv,↓dN,↓dT,↓dTn,↓dTc,↓rsv,↓Gs.set,↓dFor,↓dItems,↓dRange1,↓dLc,↓dCB,↓cLen,↓cAll,↓cTuple,↓cInt1,↓cInt2,↓dIsi,↓dSetS,↓oSub,↓oAddI,↓oMul,↓oDiv,↓oMod,↓oShl,↓oPow,↓oLt,↓oLe,↓oGt,↓oGe,↓oAbs,↓oMin,↓cMinL,↓cSortedD,↓dSl,↓oNo,↓oSo,↓dBy,↓dD0,↓cLZ,↓dEnum,↓fMulT,↓cReprX,↓dRaise,↓dRaise0,↓dStop,↓dDropX,↓dAsgX,↓dTup2X,↓dCallX,↓dXval,↓dTry,↓dHand,↓dAs,↓gAs,↓Gs.unset,↓rtN,↓dLam,↓dAct,↓lamF,↓gLam,↓plainO,↓Z.isNon,↓dIfT,ent,svOf,List.map_cons,List.map_nil,List.cons_append,List.nil_append,List.append_nil,List.replicate,List.length_cons,List.length_nil,List.getElem?_cons_zero,List.getElem?_cons_succ,List.getElem?_nil,List.set_cons_zero,List.set_cons_succ,Option.map_some,Option.map_none,Option.isNone_some,Option.isNone_none,forall_const,true_implies,false_implies,and_true,true_and,Bool.true_eq_false,Bool.false_eq_true,reduceCtorEq,noOwn,wipeS,hide,fuN_self,lcD,dYes,Nat.zero_add,Nat.reduceAdd,Nat.reduceLeDiff,Nat.reduceSub,atI_0,atI_1,atI_2,atI_3,atI_4,atI_5,Int.one_mul,eqv_ii,eqv_ss,eqv_num,shaped_int,shaped_num,shaped_none,shaped_ru,flat_str,flat_int,flat_none,List.all_cons,List.all_nil,Bool.and_true,decide_eq_true_eq,decide_eq_false_iff_not,Bool.not_eq_true',Bool.not_eq_false',Decidable.not_not,↓reduceIte,Bool.false_eq_true,Int.reduceLT,eqv_strs,pick_0,pick_01,pick_10,pick_012,pick_021,pick_102,pick_120,pick_201,pick_210]
  refine ts h1 fun o1 ho1 => ?_
  simp only [↓dSeq,↓dAsg,↓dSetL,↓dNext,↓dIfS,↓dRet,↓dRetL,↓dDrop,↓dNever,↓dAug,↓dPar,↓dParL,↓dApp,↓dVar,↓dC,↓dBin,↓fI,↓fI0,↓fAdd,↓fEq,↓fNe,↓fIn,↓dTest,↓dAndT,↓dOrT,↓dNotT,↓dAndV,↓dOrV,↓dNotV,↓dIf,↓dIsN,↓dChain,↓dNil,↓dCons,↓dTup,↓dLst,↓dFz,↓valsD,↓dIx,↓dCall,↓dCallL,↓hasSrc,↓rrv,↓dN,↓dT,↓dTn,↓dTc,↓rsv,↓Gs.set,↓dFor,↓dItems,↓dRange1,↓dLc,↓dCB,↓cLen,↓cAll,↓cTuple,↓cInt1,↓cInt2,↓dIsi,↓dSetS,↓oSub,↓oAddI,↓oMul,↓oDiv,↓oMod,↓oShl,↓oPow,↓oLt,↓oLe,↓oGt,↓oGe,↓oAbs,↓oMin,↓cMinL,↓cSortedD,↓dSl,↓oNo,↓oSo,↓dBy,↓dD0,↓cLZ,↓dEnum,↓fMulT,↓cReprX,↓dRaise,↓dRaise0,↓dStop,↓dDropX,↓dAsgX,↓dTup2X,↓dCallX,↓dXval,↓dTry,↓dHand,↓dAs,↓gAs,↓Gs.unset,↓rtN,↓dLam,↓dAct,↓lamF,↓gLam,↓plainO,↓Z.isNon,↓dIfT,ent,svOf,List.map_cons,List.map_nil,List.cons_append,List.nil_append,List.append_nil,List.replicate,List.length_cons,List.length_nil,List.getElem?_cons_zero,List.getElem?_cons_succ,List.getElem?_nil,List.set_cons_zero,List.set_cons_succ,Option.map_some,Option.map_none,Option.isNone_some,Option.isNone_none,forall_const,true_implies,false_implies,and_true,true_and,Bool.true_eq_false,Bool.false_eq_true,reduceCtorEq,noOwn,wipeS,hide,fuN_self,lcD,dYes,Nat.zero_add,Nat.reduceAdd,Nat.reduceLeDiff,Nat.reduceSub,atI_0,atI_1,atI_2,atI_3,atI_4,atI_5,Int.one_mul,eqv_ii,eqv_ss,eqv_num,shaped_int,shaped_num,shaped_none,shaped_ru,flat_str,flat_int,flat_none,List.all_cons,List.all_nil,Bool.and_true,decide_eq_true_eq,decide_eq_false_iff_not,Bool.not_eq_true',Bool.not_eq_false',Decidable.not_not,↓reduceIte,Bool.false_eq_true,Int.reduceLT,eqv_strs,pick_0,pick_01,pick_10,pick_012,pick_021,pick_102,pick_120,pick_201,pick_210]
  refine ⟨⟨_, rfl⟩, ts h2 fun o2 ho2 => ?_⟩
  simp only [↓dSeq,↓dAsg,↓dSetL,↓dNext,↓dIfS,↓dRet,↓dRetL,↓dDrop,↓dNever,↓dAug,↓dPar,↓dParL,↓dApp,↓dVar,↓dC,↓dBin,↓fI,↓fI0,↓fAdd,↓fEq,↓fNe,↓fIn,↓dTest,↓dAndT,↓dOrT,↓dNotT,↓dAndV,↓dOrV,↓dNotV,↓dIf,↓dIsN,↓dChain,↓dNil,↓dCons,↓dTup,↓dLst,↓dFz,↓valsD,↓dIx,↓dCall,↓dCallL,↓hasSrc,↓rrv,↓dN,↓dT,↓dTn,↓dTc,↓rsv,↓Gs.set,↓dFor,↓dItems,↓dRange1,↓dLc,↓dCB,↓cLen,↓cAll,↓cTuple,↓cInt1,↓cInt2,↓dIsi,↓dSetS,↓oSub,↓oAddI,↓oMul,↓oDiv,↓oMod,↓oShl,↓oPow,↓oLt,↓oLe,↓oGt,↓oGe,↓oAbs,↓oMin,↓cMinL,↓cSortedD,↓dSl,↓oNo,↓oSo,↓dBy,↓dD0,↓cLZ,↓dEnum,↓fMulT,↓cReprX,↓dRaise,↓dRaise0,↓dStop,↓dDropX,↓dAsgX,↓dTup2X,↓dCallX,↓dXval,↓dTry,↓dHand,↓dAs,↓gAs,↓Gs.unset,↓rtN,↓dLam,↓dAct,↓lamF,↓gLam,↓plainO,↓Z.isNon,↓dIfT,ent,svOf,List.map_cons,List.map_nil,List.cons_append,List.nil_append,List.append_nil,List.replicate,List.length_cons,List.length_nil,List.getElem?_cons_zero,List.getElem?_cons_succ,List.getElem?_nil,List.set_cons_zero,List.set_cons_succ,Option.map_some,Option.map_none,Option.isNone_some,Option.isNone_none,forall_const,true_implies,false_implies,and_true,true_and,Bool.true_eq_false,Bool.false_eq_true,reduceCtorEq,noOwn,wipeS,hide,fuN_self,lcD,dYes,Nat.zero_add,Nat.reduceAdd,Nat.reduceLeDiff,Nat.reduceSub,atI_0,atI_1,atI_2,atI_3,atI_4,atI_5,Int.one_mul,eqv_ii,eqv_ss,eqv_num,shaped_int,shaped_num,shaped_none,shaped_ru,flat_str,flat_int,flat_none,List.all_cons,List.all_nil,Bool.and_true,decide_eq_true_eq,decide_eq_false_iff_not,Bool.not_eq_true',Bool.not_eq_false',Decidable.not_not,↓reduceIte,Bool.false_eq_true,Int.reduceLT,eqv_strs,pick_0,pick_01,pick_10,pick_012,pick_021,pick_102,pick_120,pick_201,pick_210]
  refine ⟨by decide, ⟨_, rfl⟩, ts h3 fun o3 ho3 => ?_⟩
  simp only [↓dSeq,↓dAsg,↓dSetL,↓dNext,↓dIfS,↓dRet,↓dRetL,↓dDrop,↓dNever,↓dAug,↓dPar,↓dParL,↓dApp,↓dVar,↓dC,↓dBin,↓fI,↓fI0,↓fAdd,↓fEq,↓fNe,↓fIn,↓dTest,↓dAndT,↓dOrT,↓dNotT,↓dAndV,↓dOrV,↓dNotV,↓dIf,↓dIsN,↓dChain,↓dNil,↓dCons,↓dTup,↓dLst,↓dFz,↓valsD,↓dIx,↓dCall,↓dCallL,↓hasSrc,↓rrv,↓dN,↓dT,↓dTn,↓dTc,↓rsv,↓Gs.set,↓dFor,↓dItems,↓dRange1,↓dLc,↓dCB,↓cLen,↓cAll,↓cTuple,↓cInt1,↓cInt2,↓dIsi,↓dSetS,↓oSub,↓oAddI,↓oMul,↓oDiv,↓oMod,↓oShl,↓oPow,↓oLt,↓oLe,↓oGt,↓oGe,↓oAbs,↓oMin,↓cMinL,↓cSortedD,↓dSl,↓oNo,↓oSo,↓dBy,↓dD0,↓cLZ,↓dEnum,↓fMulT,↓cReprX,↓dRaise,↓dRaise0,↓dStop,↓dDropX,↓dAsgX,↓dTup2X,↓dCallX,↓dXval,↓dTry,↓dHand,↓dAs,↓gAs,↓Gs.unset,↓rtN,↓dLam,↓dAct,↓lamF,↓gLam,↓plainO,↓Z.isNon,↓dIfT,ent,svOf,List.map_cons,List.map_nil,List.cons_append,List.nil_append,List.append_nil,List.replicate,List.length_cons,List.length_nil,List.getElem?_cons_zero,List.getElem?_cons_succ,List.getElem?_nil,List.set_cons_zero,List.set_cons_succ,Option.map_some,Option.map_none,Option.isNone_some,Option.isNone_none,forall_const,true_implies,false_implies,and_true,true_and,Bool.true_eq_false,Bool.false_eq_true,reduceCtorEq,noOwn,wipeS,hide,fuN_self,lcD,dYes,Nat.zero_add,Nat.reduceAdd,Nat.reduceLeDiff,Nat.reduceSub,atI_0,atI_1,atI_2,atI_3,atI_4,atI_5,Int.one_mul,eqv_ii,eqv_ss,eqv_num,shaped_int,shaped_num,shaped_none,shaped_ru,flat_str,flat_int,flat_none,List.all_cons,List.all_nil,Bool.and_true,decide_eq_true_eq,decide_eq_false_iff_not,Bool.not_eq_true',Bool.not_eq_false',Decidable.not_not,↓reduceIte,Bool.false_eq_true,Int.reduceLT,eqv_strs,pick_0,pick_01,pick_10,pick_012,pick_021,pick_102,pick_120,pick_201,pick_210]
  exact ⟨by decide, h _ _ _ (hR _ _ _ ho1 ho2 ho3)⟩
def lFB : DS := (dSeq (dAsg (dCall 3 fs__law_due (dCons (dVar 4) (dCons (dVar 5) (dCons (dVar 9) dNil)))) (dN 10))
  (dIfS (dIfT (dTest (dIsN false (dVar 10))) (dTest (dBin fNe (dIx (dVar 8) (dC (.int 0))) (dC (.str "returned")))) (dTest (dBin fNe (dCB cReprX (dCons (dVar 8) dNil)) (dCB cReprX (dCons (dVar 10) dNil)))))
    (dRet (dC (.bool false)))
    dNext))
/-- what is told is what is due -/
def Ok1 (x : Option Out) (o : Out) : Prop := (x = none ∧ ∃ d, o = .rt d) ∨ (x = some o ∧ ShX (tdD o))
theorem p_lFB {D : DEnds} {v u : Da} {f : Bool} {x : Option Out} {o : Out} {s0 s1 s2 s3 s6 s7 s10 s11 : Option Sv} {fu : Option Nat} {ow : Bool} (lv : layX v = true) (lu : layX u = true) (hd : Due v u f x) (ho : Ok1 x o)
    (h : D.nx ⟨[s0, s1, s2, s3, some (.val v), some (.val u), s6, s7, some (.val (tdD o)), some (.val (.bool f)), some (.val (oD x)), s11], fu, ow⟩) :
    lFB D ⟨[s0, s1, s2, s3, some (.val v), some (.val u), s6, s7, some (.val (tdD o)), some (.val (.bool f)), s10, s11], fu, ow⟩ := by
  simp only [↓dSeq,↓dAsg,↓dSetL,↓dNext,↓dIfS,↓dRet,↓dRetL,↓dDrop,↓dNever,↓dAug,↓dPar,↓dParL,↓dApp,↓dVar,↓dC,↓dBin,↓fI,↓fI0,↓fAdd,↓fEq,↓fNe,↓fIn,↓dTest,↓dAndT,↓dOrT,↓dNotT,↓dAndV,↓dOrV,↓dNotV,↓dIf,↓dIsN,↓dChain,↓dNil,↓dCons,↓dTup,↓dLst,↓dFz,↓valsD,↓dIx,↓dCall,↓dCallL,↓hasSrc,↓rrv,↓dN,↓dT,↓dTn,↓dTc,↓rsv,↓Gs.set,↓dFor,↓dItems,↓dRange1,↓dLc,↓dCB,↓cLen,↓cAll,↓cTuple,↓cInt1,↓cInt2,↓dIsi,↓dSetS,↓oSub,↓oAddI,↓oMul,↓oDiv,↓oMod,↓oShl,↓oPow,↓oLt,↓oLe,↓oGt,↓oGe,↓oAbs,↓oMin,↓cMinL,↓cSortedD,↓dSl,↓oNo,↓oSo,↓dBy,↓dD0,↓cLZ,↓dEnum,↓fMulT,↓cReprX,↓dRaise,↓dRaise0,↓dStop,↓dDropX,↓dAsgX,↓dTup2X,↓dCallX,↓dXval,↓dTry,↓dHand,↓dAs,↓gAs,↓Gs.unset,↓rtN,↓dLam,↓dAct,↓lamF,↓gLam,↓plainO,↓Z.isNon,↓dIfT,lFB,fs__law_due,ent,svOf,List.map_cons,List.map_nil,List.cons_append,List.nil_append,List.append_nil,List.replicate,List.length_cons,List.length_nil,List.getElem?_cons_zero,List.getElem?_cons_succ,List.getElem?_nil,List.set_cons_zero,List.set_cons_succ,Option.map_some,Option.map_none,Option.isNone_some,Option.isNone_none,forall_const,true_implies,false_implies,and_true,true_and,Bool.true_eq_false,Bool.false_eq_true,reduceCtorEq,noOwn,wipeS,hide,fuN_self,lcD,dYes,Nat.zero_add,Nat.reduceAdd,Nat.reduceLeDiff,Nat.reduceSub,atI_0,atI_1,atI_2,atI_3,atI_4,atI_5,Int.one_mul,eqv_ii,eqv_ss,eqv_num,shaped_int,shaped_num,shaped_none,shaped_ru,flat_str,flat_int,flat_none,List.all_cons,List.all_nil,Bool.and_true,decide_eq_true_eq,decide_eq_false_iff_not,Bool.not_eq_true',Bool.not_eq_false',Decidable.not_not,↓reduceIte,Bool.false_eq_true,Int.reduceLT,eqv_strs,pick_0,pick_01,pick_10,pick_012,pick_021,pick_102,pick_120,pick_201,pick_210]
  refine ⟨v, u, f, x, rfl, lv, lu, hd, ?_⟩
  rcases ho with ⟨rfl, d, rfl⟩ | ⟨rfl, sh⟩
  · have sr : SeqAt.shaped (.str (Str.ofString "returned")) = true := by decide +kernel
    have h' := h
    unfold oD tdD at h' ⊢
    simp only [↓dSeq,↓dAsg,↓dSetL,↓dNext,↓dIfS,↓dRet,↓dRetL,↓dDrop,↓dNever,↓dAug,↓dPar,↓dParL,↓dApp,↓dVar,↓dC,↓dBin,↓fI,↓fI0,↓fAdd,↓fEq,↓fNe,↓fIn,↓dTest,↓dAndT,↓dOrT,↓dNotT,↓dAndV,↓dOrV,↓dNotV,↓dIf,↓dIsN,↓dChain,↓dNil,↓dCons,↓dTup,↓dLst,↓dFz,↓valsD,↓dIx,↓dCall,↓dCallL,↓hasSrc,↓rrv,↓dN,↓dT,↓dTn,↓dTc,↓rsv,↓Gs.set,↓dFor,↓dItems,↓dRange1,↓dLc,↓dCB,↓cLen,↓cAll,↓cTuple,↓cInt1,↓cInt2,↓dIsi,↓dSetS,↓oSub,↓oAddI,↓oMul,↓oDiv,↓oMod,↓oShl,↓oPow,↓oLt,↓oLe,↓oGt,↓oGe,↓oAbs,↓oMin,↓cMinL,↓cSortedD,↓dSl,↓oNo,↓oSo,↓dBy,↓dD0,↓cLZ,↓dEnum,↓fMulT,↓cReprX,↓dRaise,↓dRaise0,↓dStop,↓dDropX,↓dAsgX,↓dTup2X,↓dCallX,↓dXval,↓dTry,↓dHand,↓dAs,↓gAs,↓Gs.unset,↓rtN,↓dLam,↓dAct,↓lamF,↓gLam,↓plainO,↓Z.isNon,↓dIfT,Z.isNon,ent,svOf,List.map_cons,List.map_nil,List.cons_append,List.nil_append,List.append_nil,List.replicate,List.length_cons,List.length_nil,List.getElem?_cons_zero,List.getElem?_cons_succ,List.getElem?_nil,List.set_cons_zero,List.set_cons_succ,Option.map_some,Option.map_none,Option.isNone_some,Option.isNone_none,forall_const,true_implies,false_implies,and_true,true_and,Bool.true_eq_false,Bool.false_eq_true,reduceCtorEq,noOwn,wipeS,hide,fuN_self,lcD,dYes,Nat.zero_add,Nat.reduceAdd,Nat.reduceLeDiff,Nat.reduceSub,atI_0,atI_1,atI_2,atI_3,atI_4,atI_5,Int.one_mul,eqv_ii,eqv_ss,eqv_num,shaped_int,shaped_num,shaped_none,shaped_ru,flat_str,flat_int,flat_none,List.all_cons,List.all_nil,Bool.and_true,decide_eq_true_eq,decide_eq_false_iff_not,Bool.not_eq_true',Bool.not_eq_false',Decidable.not_not,↓reduceIte,Bool.false_eq_true,Int.reduceLT,eqv_strs,pick_0,pick_01,pick_10,pick_012,pick_021,pick_102,pick_120,pick_201,pick_210]
    exact ⟨sr, sr, fun z => absurd trivial z, h'⟩
  · have q := shaped_str sh.cps
    have h' := h
    cases o with
    | rt d =>
      unfold oD tdD at h' ⊢
      unfold tdD at sh q
      simp only [↓dSeq,↓dAsg,↓dSetL,↓dNext,↓dIfS,↓dRet,↓dRetL,↓dDrop,↓dNever,↓dAug,↓dPar,↓dParL,↓dApp,↓dVar,↓dC,↓dBin,↓fI,↓fI0,↓fAdd,↓fEq,↓fNe,↓fIn,↓dTest,↓dAndT,↓dOrT,↓dNotT,↓dAndV,↓dOrV,↓dNotV,↓dIf,↓dIsN,↓dChain,↓dNil,↓dCons,↓dTup,↓dLst,↓dFz,↓valsD,↓dIx,↓dCall,↓dCallL,↓hasSrc,↓rrv,↓dN,↓dT,↓dTn,↓dTc,↓rsv,↓Gs.set,↓dFor,↓dItems,↓dRange1,↓dLc,↓dCB,↓cLen,↓cAll,↓cTuple,↓cInt1,↓cInt2,↓dIsi,↓dSetS,↓oSub,↓oAddI,↓oMul,↓oDiv,↓oMod,↓oShl,↓oPow,↓oLt,↓oLe,↓oGt,↓oGe,↓oAbs,↓oMin,↓cMinL,↓cSortedD,↓dSl,↓oNo,↓oSo,↓dBy,↓dD0,↓cLZ,↓dEnum,↓fMulT,↓cReprX,↓dRaise,↓dRaise0,↓dStop,↓dDropX,↓dAsgX,↓dTup2X,↓dCallX,↓dXval,↓dTry,↓dHand,↓dAs,↓gAs,↓Gs.unset,↓rtN,↓dLam,↓dAct,↓lamF,↓gLam,↓plainO,↓Z.isNon,↓dIfT,Z.isNon,ent,svOf,List.map_cons,List.map_nil,List.cons_append,List.nil_append,List.append_nil,List.replicate,List.length_cons,List.length_nil,List.getElem?_cons_zero,List.getElem?_cons_succ,List.getElem?_nil,List.set_cons_zero,List.set_cons_succ,Option.map_some,Option.map_none,Option.isNone_some,Option.isNone_none,forall_const,true_implies,false_implies,and_true,true_and,Bool.true_eq_false,Bool.false_eq_true,reduceCtorEq,noOwn,wipeS,hide,fuN_self,lcD,dYes,Nat.zero_add,Nat.reduceAdd,Nat.reduceLeDiff,Nat.reduceSub,atI_0,atI_1,atI_2,atI_3,atI_4,atI_5,Int.one_mul,eqv_ii,eqv_ss,eqv_num,shaped_int,shaped_num,shaped_none,shaped_ru,flat_str,flat_int,flat_none,List.all_cons,List.all_nil,Bool.and_true,decide_eq_true_eq,decide_eq_false_iff_not,Bool.not_eq_true',Bool.not_eq_false',Decidable.not_not,↓reduceIte,Bool.false_eq_true,Int.reduceLT,eqv_strs,pick_0,pick_01,pick_10,pick_012,pick_021,pick_102,pick_120,pick_201,pick_210]
      exact ⟨sh, sh, q, q, fun z => absurd trivial z, h'⟩
    | inv d =>
      unfold oD tdD at h' ⊢
      unfold tdD at sh q
      simp only [↓dSeq,↓dAsg,↓dSetL,↓dNext,↓dIfS,↓dRet,↓dRetL,↓dDrop,↓dNever,↓dAug,↓dPar,↓dParL,↓dApp,↓dVar,↓dC,↓dBin,↓fI,↓fI0,↓fAdd,↓fEq,↓fNe,↓fIn,↓dTest,↓dAndT,↓dOrT,↓dNotT,↓dAndV,↓dOrV,↓dNotV,↓dIf,↓dIsN,↓dChain,↓dNil,↓dCons,↓dTup,↓dLst,↓dFz,↓valsD,↓dIx,↓dCall,↓dCallL,↓hasSrc,↓rrv,↓dN,↓dT,↓dTn,↓dTc,↓rsv,↓Gs.set,↓dFor,↓dItems,↓dRange1,↓dLc,↓dCB,↓cLen,↓cAll,↓cTuple,↓cInt1,↓cInt2,↓dIsi,↓dSetS,↓oSub,↓oAddI,↓oMul,↓oDiv,↓oMod,↓oShl,↓oPow,↓oLt,↓oLe,↓oGt,↓oGe,↓oAbs,↓oMin,↓cMinL,↓cSortedD,↓dSl,↓oNo,↓oSo,↓dBy,↓dD0,↓cLZ,↓dEnum,↓fMulT,↓cReprX,↓dRaise,↓dRaise0,↓dStop,↓dDropX,↓dAsgX,↓dTup2X,↓dCallX,↓dXval,↓dTry,↓dHand,↓dAs,↓gAs,↓Gs.unset,↓rtN,↓dLam,↓dAct,↓lamF,↓gLam,↓plainO,↓Z.isNon,↓dIfT,Z.isNon,ent,svOf,List.map_cons,List.map_nil,List.cons_append,List.nil_append,List.append_nil,List.replicate,List.length_cons,List.length_nil,List.getElem?_cons_zero,List.getElem?_cons_succ,List.getElem?_nil,List.set_cons_zero,List.set_cons_succ,Option.map_some,Option.map_none,Option.isNone_some,Option.isNone_none,forall_const,true_implies,false_implies,and_true,true_and,Bool.true_eq_false,Bool.false_eq_true,reduceCtorEq,noOwn,wipeS,hide,fuN_self,lcD,dYes,Nat.zero_add,Nat.reduceAdd,Nat.reduceLeDiff,Nat.reduceSub,atI_0,atI_1,atI_2,atI_3,atI_4,atI_5,Int.one_mul,eqv_ii,eqv_ss,eqv_num,shaped_int,shaped_num,shaped_none,shaped_ru,flat_str,flat_int,flat_none,List.all_cons,List.all_nil,Bool.and_true,decide_eq_true_eq,decide_eq_false_iff_not,Bool.not_eq_true',Bool.not_eq_false',Decidable.not_not,↓reduceIte,Bool.false_eq_true,Int.reduceLT,eqv_strs,pick_0,pick_01,pick_10,pick_012,pick_021,pick_102,pick_120,pick_201,pick_210]
      exact ⟨sh, sh, q, q, fun z => absurd trivial z, h'⟩
    | dif =>
      unfold oD tdD at h' ⊢
      unfold tdD at sh q
      simp only [↓dSeq,↓dAsg,↓dSetL,↓dNext,↓dIfS,↓dRet,↓dRetL,↓dDrop,↓dNever,↓dAug,↓dPar,↓dParL,↓dApp,↓dVar,↓dC,↓dBin,↓fI,↓fI0,↓fAdd,↓fEq,↓fNe,↓fIn,↓dTest,↓dAndT,↓dOrT,↓dNotT,↓dAndV,↓dOrV,↓dNotV,↓dIf,↓dIsN,↓dChain,↓dNil,↓dCons,↓dTup,↓dLst,↓dFz,↓valsD,↓dIx,↓dCall,↓dCallL,↓hasSrc,↓rrv,↓dN,↓dT,↓dTn,↓dTc,↓rsv,↓Gs.set,↓dFor,↓dItems,↓dRange1,↓dLc,↓dCB,↓cLen,↓cAll,↓cTuple,↓cInt1,↓cInt2,↓dIsi,↓dSetS,↓oSub,↓oAddI,↓oMul,↓oDiv,↓oMod,↓oShl,↓oPow,↓oLt,↓oLe,↓oGt,↓oGe,↓oAbs,↓oMin,↓cMinL,↓cSortedD,↓dSl,↓oNo,↓oSo,↓dBy,↓dD0,↓cLZ,↓dEnum,↓fMulT,↓cReprX,↓dRaise,↓dRaise0,↓dStop,↓dDropX,↓dAsgX,↓dTup2X,↓dCallX,↓dXval,↓dTry,↓dHand,↓dAs,↓gAs,↓Gs.unset,↓rtN,↓dLam,↓dAct,↓lamF,↓gLam,↓plainO,↓Z.isNon,↓dIfT,Z.isNon,ent,svOf,List.map_cons,List.map_nil,List.cons_append,List.nil_append,List.append_nil,List.replicate,List.length_cons,List.length_nil,List.getElem?_cons_zero,List.getElem?_cons_succ,List.getElem?_nil,List.set_cons_zero,List.set_cons_succ,Option.map_some,Option.map_none,Option.isNone_some,Option.isNone_none,forall_const,true_implies,false_implies,and_true,true_and,Bool.true_eq_false,Bool.false_eq_true,reduceCtorEq,noOwn,wipeS,hide,fuN_self,lcD,dYes,Nat.zero_add,Nat.reduceAdd,Nat.reduceLeDiff,Nat.reduceSub,atI_0,atI_1,atI_2,atI_3,atI_4,atI_5,Int.one_mul,eqv_ii,eqv_ss,eqv_num,shaped_int,shaped_num,shaped_none,shaped_ru,flat_str,flat_int,flat_none,List.all_cons,List.all_nil,Bool.and_true,decide_eq_true_eq,decide_eq_false_iff_not,Bool.not_eq_true',Bool.not_eq_false',Decidable.not_not,↓reduceIte,Bool.false_eq_true,Int.reduceLT,eqv_strs,pick_0,pick_01,pick_10,pick_012,pick_021,pick_102,pick_120,pick_201,pick_210]
      exact ⟨sh, sh, q, q, fun z => absurd trivial z, h'⟩
def lF : DS := (dFor (dEnumZ (dVar 6) (dTup (dCons (dC (.bool false)) (dCons (dC (.bool true)) (dCons (dC (.bool true)) dNil))))) (dT 2 (dTc (dN 7) (dTc (dT 2 (dTc (dN 8) (dTc (dN 9) dTn))) dTn))) lFB)
theorem p_lF {D : DEnds} {v u : Da} {o1 o2 o3 : Out} {s0 s1 s2 s3 s7 s8 s9 s10 s11 : Option Sv} {fu : Option Nat} {ow : Bool} (hv : VU v u) (hr : Res v u o1 o2 o3)
    (h : ∀ s7 s8 s9 s10, D.nx ⟨[s0, s1, s2, s3, some (.val v), some (.val u), some (.val (.list [tdD o1, tdD o2, tdD o3])), s7, s8, s9, s10, s11], fu, ow⟩) :
    lF D ⟨[s0, s1, s2, s3, some (.val v), some (.val u), some (.own [tdD o1, tdD o2, tdD o3]), s7, s8, s9, s10, s11], fu, ow⟩ := by
  have lb := @p_lFB
  obtain ⟨lv, lu⟩ := hv.lay
  obtain ⟨x1, x2, d1, d2, k1, k2, k3⟩ : ∃ x1 x2, Due v u false x1 ∧ Due v u true x2 ∧ Ok1 x1 o1 ∧ Ok1 x2 o2 ∧ Ok1 x2 o3 := by
    cases hr with
    | a ho hu => exact ⟨_, _, .a ho.no, .a ho.no, .inr ⟨rfl, shx_inv ho⟩, .inr ⟨rfl, shx_inv ho⟩, .inr ⟨rfl, shx_inv ho⟩⟩
    | b hc ho => exact ⟨_, _, .b hc.is ho.no, .b hc.is ho.no, .inr ⟨rfl, shx_inv ho⟩, .inr ⟨rfl, shx_inv ho⟩, .inr ⟨rfl, shx_inv ho⟩⟩
    | w hc hc' hw => exact ⟨_, _, .n hc hc' (fun z => Bool.noConfusion z), .w hc hc' hw, .inl ⟨rfl, _, rfl⟩, .inr ⟨rfl, shx_dif⟩, .inr ⟨rfl, shx_dif⟩⟩
    | k hc hc' hw hd => exact ⟨_, _, .n hc hc' (fun _ => hw), .n hc hc' (fun _ => hw), .inl ⟨rfl, _, rfl⟩, .inl ⟨rfl, _, rfl⟩, .inl ⟨rfl, _, rfl⟩⟩
  unfold lF
  generalize lFB = B at lb
  simp only [↓dSeq,↓dAsg,↓dSetL,↓dNext,↓dIfS,↓dRet,↓dRetL,↓dDrop,↓dNever,↓dAug,↓dPar,↓dParL,↓dApp,↓dVar,↓dC,↓dBin,↓fI,↓fI0,↓fAdd,↓fEq,↓fNe,↓fIn,↓dTest,↓dAndT,↓dOrT,↓dNotT,↓dAndV,↓dOrV,↓dNotV,↓dIf,↓dIsN,↓dChain,↓dNil,↓dCons,↓dTup,↓dLst,↓dFz,↓valsD,↓dIx,↓dCall,↓dCallL,↓hasSrc,↓rrv,↓dN,↓dT,↓dTn,↓dTc,↓rsv,↓Gs.set,↓dFor,↓dItems,↓dRange1,↓dLc,↓dCB,↓cLen,↓cAll,↓cTuple,↓cInt1,↓cInt2,↓dIsi,↓dSetS,↓oSub,↓oAddI,↓oMul,↓oDiv,↓oMod,↓oShl,↓oPow,↓oLt,↓oLe,↓oGt,↓oGe,↓oAbs,↓oMin,↓cMinL,↓cSortedD,↓dSl,↓oNo,↓oSo,↓dBy,↓dD0,↓cLZ,↓dEnum,↓fMulT,↓cReprX,↓dRaise,↓dRaise0,↓dStop,↓dDropX,↓dAsgX,↓dTup2X,↓dCallX,↓dXval,↓dTry,↓dHand,↓dAs,↓gAs,↓Gs.unset,↓rtN,↓dLam,↓dAct,↓lamF,↓gLam,↓plainO,↓Z.isNon,↓dIfT,dEnumZ,zipD,enD,forD,ent,svOf,List.map_cons,List.map_nil,List.cons_append,List.nil_append,List.append_nil,List.replicate,List.length_cons,List.length_nil,List.getElem?_cons_zero,List.getElem?_cons_succ,List.getElem?_nil,List.set_cons_zero,List.set_cons_succ,Option.map_some,Option.map_none,Option.isNone_some,Option.isNone_none,forall_const,true_implies,false_implies,and_true,true_and,Bool.true_eq_false,Bool.false_eq_true,reduceCtorEq,noOwn,wipeS,hide,fuN_self,lcD,dYes,Nat.zero_add,Nat.reduceAdd,Nat.reduceLeDiff,Nat.reduceSub,atI_0,atI_1,atI_2,atI_3,atI_4,atI_5,Int.one_mul,eqv_ii,eqv_ss,eqv_num,shaped_int,shaped_num,shaped_none,shaped_ru,flat_str,flat_int,flat_none,List.all_cons,List.all_nil,Bool.and_true,decide_eq_true_eq,decide_eq_false_iff_not,Bool.not_eq_true',Bool.not_eq_false',Decidable.not_not,↓reduceIte,Bool.false_eq_true,Int.reduceLT,eqv_strs,pick_0,pick_01,pick_10,pick_012,pick_021,pick_102,pick_120,pick_201,pick_210]
  refine lb lv lu d1 k1 ?_
  simp only [↓dSeq,↓dAsg,↓dSetL,↓dNext,↓dIfS,↓dRet,↓dRetL,↓dDrop,↓dNever,↓dAug,↓dPar,↓dParL,↓dApp,↓dVar,↓dC,↓dBin,↓fI,↓fI0,↓fAdd,↓fEq,↓fNe,↓fIn,↓dTest,↓dAndT,↓dOrT,↓dNotT,↓dAndV,↓dOrV,↓dNotV,↓dIf,↓dIsN,↓dChain,↓dNil,↓dCons,↓dTup,↓dLst,↓dFz,↓valsD,↓dIx,↓dCall,↓dCallL,↓hasSrc,↓rrv,↓dN,↓dT,↓dTn,↓dTc,↓rsv,↓Gs.set,↓dFor,↓dItems,↓dRange1,↓dLc,↓dCB,↓cLen,↓cAll,↓cTuple,↓cInt1,↓cInt2,↓dIsi,↓dSetS,↓oSub,↓oAddI,↓oMul,↓oDiv,↓oMod,↓oShl,↓oPow,↓oLt,↓oLe,↓oGt,↓oGe,↓oAbs,↓oMin,↓cMinL,↓cSortedD,↓dSl,↓oNo,↓oSo,↓dBy,↓dD0,↓cLZ,↓dEnum,↓fMulT,↓cReprX,↓dRaise,↓dRaise0,↓dStop,↓dDropX,↓dAsgX,↓dTup2X,↓dCallX,↓dXval,↓dTry,↓dHand,↓dAs,↓gAs,↓Gs.unset,↓rtN,↓dLam,↓dAct,↓lamF,↓gLam,↓plainO,↓Z.isNon,↓dIfT,ent,svOf,List.map_cons,List.map_nil,List.cons_append,List.nil_append,List.append_nil,List.replicate,List.length_cons,List.length_nil,List.getElem?_cons_zero,List.getElem?_cons_succ,List.getElem?_nil,List.set_cons_zero,List.set_cons_succ,Option.map_some,Option.map_none,Option.isNone_some,Option.isNone_none,forall_const,true_implies,false_implies,and_true,true_and,Bool.true_eq_false,Bool.false_eq_true,reduceCtorEq,noOwn,wipeS,hide,fuN_self,lcD,dYes,Nat.zero_add,Nat.reduceAdd,Nat.reduceLeDiff,Nat.reduceSub,atI_0,atI_1,atI_2,atI_3,atI_4,atI_5,Int.one_mul,eqv_ii,eqv_ss,eqv_num,shaped_int,shaped_num,shaped_none,shaped_ru,flat_str,flat_int,flat_none,List.all_cons,List.all_nil,Bool.and_true,decide_eq_true_eq,decide_eq_false_iff_not,Bool.not_eq_true',Bool.not_eq_false',Decidable.not_not,↓reduceIte,Bool.false_eq_true,Int.reduceLT,eqv_strs,pick_0,pick_01,pick_10,pick_012,pick_021,pick_102,pick_120,pick_201,pick_210]
  refine lb lv lu d2 k2 ?_
  simp only [↓dSeq,↓dAsg,↓dSetL,↓dNext,↓dIfS,↓dRet,↓dRetL,↓dDrop,↓dNever,↓dAug,↓dPar,↓dParL,↓dApp,↓dVar,↓dC,↓dBin,↓fI,↓fI0,↓fAdd,↓fEq,↓fNe,↓fIn,↓dTest,↓dAndT,↓dOrT,↓dNotT,↓dAndV,↓dOrV,↓dNotV,↓dIf,↓dIsN,↓dChain,↓dNil,↓dCons,↓dTup,↓dLst,↓dFz,↓valsD,↓dIx,↓dCall,↓dCallL,↓hasSrc,↓rrv,↓dN,↓dT,↓dTn,↓dTc,↓rsv,↓Gs.set,↓dFor,↓dItems,↓dRange1,↓dLc,↓dCB,↓cLen,↓cAll,↓cTuple,↓cInt1,↓cInt2,↓dIsi,↓dSetS,↓oSub,↓oAddI,↓oMul,↓oDiv,↓oMod,↓oShl,↓oPow,↓oLt,↓oLe,↓oGt,↓oGe,↓oAbs,↓oMin,↓cMinL,↓cSortedD,↓dSl,↓oNo,↓oSo,↓dBy,↓dD0,↓cLZ,↓dEnum,↓fMulT,↓cReprX,↓dRaise,↓dRaise0,↓dStop,↓dDropX,↓dAsgX,↓dTup2X,↓dCallX,↓dXval,↓dTry,↓dHand,↓dAs,↓gAs,↓Gs.unset,↓rtN,↓dLam,↓dAct,↓lamF,↓gLam,↓plainO,↓Z.isNon,↓dIfT,ent,svOf,List.map_cons,List.map_nil,List.cons_append,List.nil_append,List.append_nil,List.replicate,List.length_cons,List.length_nil,List.getElem?_cons_zero,List.getElem?_cons_succ,List.getElem?_nil,List.set_cons_zero,List.set_cons_succ,Option.map_some,Option.map_none,Option.isNone_some,Option.isNone_none,forall_const,true_implies,false_implies,and_true,true_and,Bool.true_eq_false,Bool.false_eq_true,reduceCtorEq,noOwn,wipeS,hide,fuN_self,lcD,dYes,Nat.zero_add,Nat.reduceAdd,Nat.reduceLeDiff,Nat.reduceSub,atI_0,atI_1,atI_2,atI_3,atI_4,atI_5,Int.one_mul,eqv_ii,eqv_ss,eqv_num,shaped_int,shaped_num,shaped_none,shaped_ru,flat_str,flat_int,flat_none,List.all_cons,List.all_nil,Bool.and_true,decide_eq_true_eq,decide_eq_false_iff_not,Bool.not_eq_true',Bool.not_eq_false',Decidable.not_not,↓reduceIte,Bool.false_eq_true,Int.reduceLT,eqv_strs,pick_0,pick_01,pick_10,pick_012,pick_021,pick_102,pick_120,pick_201,pick_210]
  refine lb lv lu d2 k3 ?_
  exact h _ _ _ _
def lE : DS := (dIfS (dTest (dIsN false (dCall 3 fs__law_due (dCons (dVar 4) (dCons (dVar 5) (dCons (dC (.bool true)) dNil))))))
    (dSeq (dAsg (dFz (dLst (dCons (dCall 2 fs_same (dCons (dVar 5) (dCons (dVar 4) dNil))) (dCons (dCall 2 fs_zones (dCons (dVar 5) (dCons (dVar 4) dNil))) (dCons (dCall 2 fs_simplest_difference (dCons (dVar 5) (dCons (dVar 4) dNil))) dNil))))) (dN 11))
  (dIfS (dTest (dBin fNe (dCB cReprX (dCons (dVar 11) dNil)) (dCB cReprX (dCons (dFz (dLc [8] (dItems (dVar 6)) (dN 8) dYes (dIx (dVar 8) (dC (.int 1))))) dNil))))
    (dRet (dC (.bool false)))
    dNext))
    (dIfS (dAndT (dTest (dIsN false (dCall 3 fs__law_due (dCons (dVar 4) (dCons (dVar 5) (dCons (dC (.bool false)) dNil)))))) (dTest (dBin fNe (dIx (dVar 6) (dC (.int 0))) (dTup (dCons (dC (.str "returned")) (dCons (dC (.bool false)) dNil))))))
    (dRet (dC (.bool false)))
    dNext))
theorem p_lE {D : DEnds} {v u : Da} {o1 o2 o3 : Out} {s0 s1 s2 s3 s7 s8 s9 s10 s11 : Option Sv} {fu : Option Nat} {ow : Bool} (hv : VU v u) (hr : Res v u o1 o2 o3)
    (h : ∀ s7 s8 s9 s10 s11, D.nx ⟨[s0, s1, s2, s3, some (.val v), some (.val u), some (.val (.list [tdD o1, tdD o2, tdD o3])), s7, s8, s9, s10, s11], fu, ow⟩) :
    lE D ⟨[s0, s1, s2, s3, some (.val v), some (.val u), some (.val (.list [tdD o1, tdD o2, tdD o3])), s7, s8, s9, s10, s11], fu, ow⟩ := by
  obtain ⟨lv, lu⟩ := hv.lay
  cases hr with
  | a ho hu =>
    simp only [↓dSeq,↓dAsg,↓dSetL,↓dNext,↓dIfS,↓dRet,↓dRetL,↓dDrop,↓dNever,↓dAug,↓dPar,↓dParL,↓dApp,↓dVar,↓dC,↓dBin,↓fI,↓fI0,↓fAdd,↓fEq,↓fNe,↓fIn,↓dTest,↓dAndT,↓dOrT,↓dNotT,↓dAndV,↓dOrV,↓dNotV,↓dIf,↓dIsN,↓dChain,↓dNil,↓dCons,↓dTup,↓dLst,↓dFz,↓valsD,↓dIx,↓dCall,↓dCallL,↓hasSrc,↓rrv,↓dN,↓dT,↓dTn,↓dTc,↓rsv,↓Gs.set,↓dFor,↓dItems,↓dRange1,↓dLc,↓dCB,↓cLen,↓cAll,↓cTuple,↓cInt1,↓cInt2,↓dIsi,↓dSetS,↓oSub,↓oAddI,↓oMul,↓oDiv,↓oMod,↓oShl,↓oPow,↓oLt,↓oLe,↓oGt,↓oGe,↓oAbs,↓oMin,↓cMinL,↓cSortedD,↓dSl,↓oNo,↓oSo,↓dBy,↓dD0,↓cLZ,↓dEnum,↓fMulT,↓cReprX,↓dRaise,↓dRaise0,↓dStop,↓dDropX,↓dAsgX,↓dTup2X,↓dCallX,↓dXval,↓dTry,↓dHand,↓dAs,↓gAs,↓Gs.unset,↓rtN,↓dLam,↓dAct,↓lamF,↓gLam,↓plainO,↓Z.isNon,↓dIfT,lE,fs__law_due,ent,svOf,List.map_cons,List.map_nil,List.cons_append,List.nil_append,List.append_nil,List.replicate,List.length_cons,List.length_nil,List.getElem?_cons_zero,List.getElem?_cons_succ,List.getElem?_nil,List.set_cons_zero,List.set_cons_succ,Option.map_some,Option.map_none,Option.isNone_some,Option.isNone_none,forall_const,true_implies,false_implies,and_true,true_and,Bool.true_eq_false,Bool.false_eq_true,reduceCtorEq,noOwn,wipeS,hide,fuN_self,lcD,dYes,Nat.zero_add,Nat.reduceAdd,Nat.reduceLeDiff,Nat.reduceSub,atI_0,atI_1,atI_2,atI_3,atI_4,atI_5,Int.one_mul,eqv_ii,eqv_ss,eqv_num,shaped_int,shaped_num,shaped_none,shaped_ru,flat_str,flat_int,flat_none,List.all_cons,List.all_nil,Bool.and_true,decide_eq_true_eq,decide_eq_false_iff_not,Bool.not_eq_true',Bool.not_eq_false',Decidable.not_not,↓reduceIte,Bool.false_eq_true,Int.reduceLT,eqv_strs,pick_0,pick_01,pick_10,pick_012,pick_021,pick_102,pick_120,pick_201,pick_210]
    refine ⟨v, u, true, some (.inv v), rfl, lv, lu, .a ho.no, ?_⟩
    simp only [↓dSeq,↓dAsg,↓dSetL,↓dNext,↓dIfS,↓dRet,↓dRetL,↓dDrop,↓dNever,↓dAug,↓dPar,↓dParL,↓dApp,↓dVar,↓dC,↓dBin,↓fI,↓fI0,↓fAdd,↓fEq,↓fNe,↓fIn,↓dTest,↓dAndT,↓dOrT,↓dNotT,↓dAndV,↓dOrV,↓dNotV,↓dIf,↓dIsN,↓dChain,↓dNil,↓dCons,↓dTup,↓dLst,↓dFz,↓valsD,↓dIx,↓dCall,↓dCallL,↓hasSrc,↓rrv,↓dN,↓dT,↓dTn,↓dTc,↓rsv,↓Gs.set,↓dFor,↓dItems,↓dRange1,↓dLc,↓dCB,↓cLen,↓cAll,↓cTuple,↓cInt1,↓cInt2,↓dIsi,↓dSetS,↓oSub,↓oAddI,↓oMul,↓oDiv,↓oMod,↓oShl,↓oPow,↓oLt,↓oLe,↓oGt,↓oGe,↓oAbs,↓oMin,↓cMinL,↓cSortedD,↓dSl,↓oNo,↓oSo,↓dBy,↓dD0,↓cLZ,↓dEnum,↓fMulT,↓cReprX,↓dRaise,↓dRaise0,↓dStop,↓dDropX,↓dAsgX,↓dTup2X,↓dCallX,↓dXval,↓dTry,↓dHand,↓dAs,↓gAs,↓Gs.unset,↓rtN,↓dLam,↓dAct,↓lamF,↓gLam,↓plainO,↓Z.isNon,↓dIfT,oD,tdD,ent,svOf,List.map_cons,List.map_nil,List.cons_append,List.nil_append,List.append_nil,List.replicate,List.length_cons,List.length_nil,List.getElem?_cons_zero,List.getElem?_cons_succ,List.getElem?_nil,List.set_cons_zero,List.set_cons_succ,Option.map_some,Option.map_none,Option.isNone_some,Option.isNone_none,forall_const,true_implies,false_implies,and_true,true_and,Bool.true_eq_false,Bool.false_eq_true,reduceCtorEq,noOwn,wipeS,hide,fuN_self,lcD,dYes,Nat.zero_add,Nat.reduceAdd,Nat.reduceLeDiff,Nat.reduceSub,atI_0,atI_1,atI_2,atI_3,atI_4,atI_5,Int.one_mul,eqv_ii,eqv_ss,eqv_num,shaped_int,shaped_num,shaped_none,shaped_ru,flat_str,flat_int,flat_none,List.all_cons,List.all_nil,Bool.and_true,decide_eq_true_eq,decide_eq_false_iff_not,Bool.not_eq_true',Bool.not_eq_false',Decidable.not_not,↓reduceIte,Bool.false_eq_true,Int.reduceLT,eqv_strs,pick_0,pick_01,pick_10,pick_012,pick_021,pick_102,pick_120,pick_201,pick_210]
    exact ⟨v, u, false, some (.inv v), rfl, lv, lu, .a ho.no, by simp only [↓dSeq,↓dAsg,↓dSetL,↓dNext,↓dIfS,↓dRet,↓dRetL,↓dDrop,↓dNever,↓dAug,↓dPar,↓dParL,↓dApp,↓dVar,↓dC,↓dBin,↓fI,↓fI0,↓fAdd,↓fEq,↓fNe,↓fIn,↓dTest,↓dAndT,↓dOrT,↓dNotT,↓dAndV,↓dOrV,↓dNotV,↓dIf,↓dIsN,↓dChain,↓dNil,↓dCons,↓dTup,↓dLst,↓dFz,↓valsD,↓dIx,↓dCall,↓dCallL,↓hasSrc,↓rrv,↓dN,↓dT,↓dTn,↓dTc,↓rsv,↓Gs.set,↓dFor,↓dItems,↓dRange1,↓dLc,↓dCB,↓cLen,↓cAll,↓cTuple,↓cInt1,↓cInt2,↓dIsi,↓dSetS,↓oSub,↓oAddI,↓oMul,↓oDiv,↓oMod,↓oShl,↓oPow,↓oLt,↓oLe,↓oGt,↓oGe,↓oAbs,↓oMin,↓cMinL,↓cSortedD,↓dSl,↓oNo,↓oSo,↓dBy,↓dD0,↓cLZ,↓dEnum,↓fMulT,↓cReprX,↓dRaise,↓dRaise0,↓dStop,↓dDropX,↓dAsgX,↓dTup2X,↓dCallX,↓dXval,↓dTry,↓dHand,↓dAs,↓gAs,↓Gs.unset,↓rtN,↓dLam,↓dAct,↓lamF,↓gLam,↓plainO,↓Z.isNon,↓dIfT,oD,tdD,ent,svOf,List.map_cons,List.map_nil,List.cons_append,List.nil_append,List.append_nil,List.replicate,List.length_cons,List.length_nil,List.getElem?_cons_zero,List.getElem?_cons_succ,List.getElem?_nil,List.set_cons_zero,List.set_cons_succ,Option.map_some,Option.map_none,Option.isNone_some,Option.isNone_none,forall_const,true_implies,false_implies,and_true,true_and,Bool.true_eq_false,Bool.false_eq_true,reduceCtorEq,noOwn,wipeS,hide,fuN_self,lcD,dYes,Nat.zero_add,Nat.reduceAdd,Nat.reduceLeDiff,Nat.reduceSub,atI_0,atI_1,atI_2,atI_3,atI_4,atI_5,Int.one_mul,eqv_ii,eqv_ss,eqv_num,shaped_int,shaped_num,shaped_none,shaped_ru,flat_str,flat_int,flat_none,List.all_cons,List.all_nil,Bool.and_true,decide_eq_true_eq,decide_eq_false_iff_not,Bool.not_eq_true',Bool.not_eq_false',Decidable.not_not,↓reduceIte,Bool.false_eq_true,Int.reduceLT,eqv_strs,pick_0,pick_01,pick_10,pick_012,pick_021,pick_102,pick_120,pick_201,pick_210]; exact h _ _ _ _ _⟩
  | b hc ho =>
    simp only [↓dSeq,↓dAsg,↓dSetL,↓dNext,↓dIfS,↓dRet,↓dRetL,↓dDrop,↓dNever,↓dAug,↓dPar,↓dParL,↓dApp,↓dVar,↓dC,↓dBin,↓fI,↓fI0,↓fAdd,↓fEq,↓fNe,↓fIn,↓dTest,↓dAndT,↓dOrT,↓dNotT,↓dAndV,↓dOrV,↓dNotV,↓dIf,↓dIsN,↓dChain,↓dNil,↓dCons,↓dTup,↓dLst,↓dFz,↓valsD,↓dIx,↓dCall,↓dCallL,↓hasSrc,↓rrv,↓dN,↓dT,↓dTn,↓dTc,↓rsv,↓Gs.set,↓dFor,↓dItems,↓dRange1,↓dLc,↓dCB,↓cLen,↓cAll,↓cTuple,↓cInt1,↓cInt2,↓dIsi,↓dSetS,↓oSub,↓oAddI,↓oMul,↓oDiv,↓oMod,↓oShl,↓oPow,↓oLt,↓oLe,↓oGt,↓oGe,↓oAbs,↓oMin,↓cMinL,↓cSortedD,↓dSl,↓oNo,↓oSo,↓dBy,↓dD0,↓cLZ,↓dEnum,↓fMulT,↓cReprX,↓dRaise,↓dRaise0,↓dStop,↓dDropX,↓dAsgX,↓dTup2X,↓dCallX,↓dXval,↓dTry,↓dHand,↓dAs,↓gAs,↓Gs.unset,↓rtN,↓dLam,↓dAct,↓lamF,↓gLam,↓plainO,↓Z.isNon,↓dIfT,lE,fs__law_due,ent,svOf,List.map_cons,List.map_nil,List.cons_append,List.nil_append,List.append_nil,List.replicate,List.length_cons,List.length_nil,List.getElem?_cons_zero,List.getElem?_cons_succ,List.getElem?_nil,List.set_cons_zero,List.set_cons_succ,Option.map_some,Option.map_none,Option.isNone_some,Option.isNone_none,forall_const,true_implies,false_implies,and_true,true_and,Bool.true_eq_false,Bool.false_eq_true,reduceCtorEq,noOwn,wipeS,hide,fuN_self,lcD,dYes,Nat.zero_add,Nat.reduceAdd,Nat.reduceLeDiff,Nat.reduceSub,atI_0,atI_1,atI_2,atI_3,atI_4,atI_5,Int.one_mul,eqv_ii,eqv_ss,eqv_num,shaped_int,shaped_num,shaped_none,shaped_ru,flat_str,flat_int,flat_none,List.all_cons,List.all_nil,Bool.and_true,decide_eq_true_eq,decide_eq_false_iff_not,Bool.not_eq_true',Bool.not_eq_false',Decidable.not_not,↓reduceIte,Bool.false_eq_true,Int.reduceLT,eqv_strs,pick_0,pick_01,pick_10,pick_012,pick_021,pick_102,pick_120,pick_201,pick_210]
    refine ⟨_, u, true, some (.inv u), rfl, lv, lu, .b hc.is ho.no, ?_⟩
    simp only [↓dSeq,↓dAsg,↓dSetL,↓dNext,↓dIfS,↓dRet,↓dRetL,↓dDrop,↓dNever,↓dAug,↓dPar,↓dParL,↓dApp,↓dVar,↓dC,↓dBin,↓fI,↓fI0,↓fAdd,↓fEq,↓fNe,↓fIn,↓dTest,↓dAndT,↓dOrT,↓dNotT,↓dAndV,↓dOrV,↓dNotV,↓dIf,↓dIsN,↓dChain,↓dNil,↓dCons,↓dTup,↓dLst,↓dFz,↓valsD,↓dIx,↓dCall,↓dCallL,↓hasSrc,↓rrv,↓dN,↓dT,↓dTn,↓dTc,↓rsv,↓Gs.set,↓dFor,↓dItems,↓dRange1,↓dLc,↓dCB,↓cLen,↓cAll,↓cTuple,↓cInt1,↓cInt2,↓dIsi,↓dSetS,↓oSub,↓oAddI,↓oMul,↓oDiv,↓oMod,↓oShl,↓oPow,↓oLt,↓oLe,↓oGt,↓oGe,↓oAbs,↓oMin,↓cMinL,↓cSortedD,↓dSl,↓oNo,↓oSo,↓dBy,↓dD0,↓cLZ,↓dEnum,↓fMulT,↓cReprX,↓dRaise,↓dRaise0,↓dStop,↓dDropX,↓dAsgX,↓dTup2X,↓dCallX,↓dXval,↓dTry,↓dHand,↓dAs,↓gAs,↓Gs.unset,↓rtN,↓dLam,↓dAct,↓lamF,↓gLam,↓plainO,↓Z.isNon,↓dIfT,oD,tdD,ent,svOf,List.map_cons,List.map_nil,List.cons_append,List.nil_append,List.append_nil,List.replicate,List.length_cons,List.length_nil,List.getElem?_cons_zero,List.getElem?_cons_succ,List.getElem?_nil,List.set_cons_zero,List.set_cons_succ,Option.map_some,Option.map_none,Option.isNone_some,Option.isNone_none,forall_const,true_implies,false_implies,and_true,true_and,Bool.true_eq_false,Bool.false_eq_true,reduceCtorEq,noOwn,wipeS,hide,fuN_self,lcD,dYes,Nat.zero_add,Nat.reduceAdd,Nat.reduceLeDiff,Nat.reduceSub,atI_0,atI_1,atI_2,atI_3,atI_4,atI_5,Int.one_mul,eqv_ii,eqv_ss,eqv_num,shaped_int,shaped_num,shaped_none,shaped_ru,flat_str,flat_int,flat_none,List.all_cons,List.all_nil,Bool.and_true,decide_eq_true_eq,decide_eq_false_iff_not,Bool.not_eq_true',Bool.not_eq_false',Decidable.not_not,↓reduceIte,Bool.false_eq_true,Int.reduceLT,eqv_strs,pick_0,pick_01,pick_10,pick_012,pick_021,pick_102,pick_120,pick_201,pick_210]
    exact ⟨_, u, false, some (.inv u), rfl, lv, lu, .b hc.is ho.no, by simp only [↓dSeq,↓dAsg,↓dSetL,↓dNext,↓dIfS,↓dRet,↓dRetL,↓dDrop,↓dNever,↓dAug,↓dPar,↓dParL,↓dApp,↓dVar,↓dC,↓dBin,↓fI,↓fI0,↓fAdd,↓fEq,↓fNe,↓fIn,↓dTest,↓dAndT,↓dOrT,↓dNotT,↓dAndV,↓dOrV,↓dNotV,↓dIf,↓dIsN,↓dChain,↓dNil,↓dCons,↓dTup,↓dLst,↓dFz,↓valsD,↓dIx,↓dCall,↓dCallL,↓hasSrc,↓rrv,↓dN,↓dT,↓dTn,↓dTc,↓rsv,↓Gs.set,↓dFor,↓dItems,↓dRange1,↓dLc,↓dCB,↓cLen,↓cAll,↓cTuple,↓cInt1,↓cInt2,↓dIsi,↓dSetS,↓oSub,↓oAddI,↓oMul,↓oDiv,↓oMod,↓oShl,↓oPow,↓oLt,↓oLe,↓oGt,↓oGe,↓oAbs,↓oMin,↓cMinL,↓cSortedD,↓dSl,↓oNo,↓oSo,↓dBy,↓dD0,↓cLZ,↓dEnum,↓fMulT,↓cReprX,↓dRaise,↓dRaise0,↓dStop,↓dDropX,↓dAsgX,↓dTup2X,↓dCallX,↓dXval,↓dTry,↓dHand,↓dAs,↓gAs,↓Gs.unset,↓rtN,↓dLam,↓dAct,↓lamF,↓gLam,↓plainO,↓Z.isNon,↓dIfT,oD,tdD,ent,svOf,List.map_cons,List.map_nil,List.cons_append,List.nil_append,List.append_nil,List.replicate,List.length_cons,List.length_nil,List.getElem?_cons_zero,List.getElem?_cons_succ,List.getElem?_nil,List.set_cons_zero,List.set_cons_succ,Option.map_some,Option.map_none,Option.isNone_some,Option.isNone_none,forall_const,true_implies,false_implies,and_true,true_and,Bool.true_eq_false,Bool.false_eq_true,reduceCtorEq,noOwn,wipeS,hide,fuN_self,lcD,dYes,Nat.zero_add,Nat.reduceAdd,Nat.reduceLeDiff,Nat.reduceSub,atI_0,atI_1,atI_2,atI_3,atI_4,atI_5,Int.one_mul,eqv_ii,eqv_ss,eqv_num,shaped_int,shaped_num,shaped_none,shaped_ru,flat_str,flat_int,flat_none,List.all_cons,List.all_nil,Bool.and_true,decide_eq_true_eq,decide_eq_false_iff_not,Bool.not_eq_true',Bool.not_eq_false',Decidable.not_not,↓reduceIte,Bool.false_eq_true,Int.reduceLT,eqv_strs,pick_0,pick_01,pick_10,pick_012,pick_021,pick_102,pick_120,pick_201,pick_210]; exact h _ _ _ _ _⟩
  | w hc hc' hw =>
    simp only [↓dSeq,↓dAsg,↓dSetL,↓dNext,↓dIfS,↓dRet,↓dRetL,↓dDrop,↓dNever,↓dAug,↓dPar,↓dParL,↓dApp,↓dVar,↓dC,↓dBin,↓fI,↓fI0,↓fAdd,↓fEq,↓fNe,↓fIn,↓dTest,↓dAndT,↓dOrT,↓dNotT,↓dAndV,↓dOrV,↓dNotV,↓dIf,↓dIsN,↓dChain,↓dNil,↓dCons,↓dTup,↓dLst,↓dFz,↓valsD,↓dIx,↓dCall,↓dCallL,↓hasSrc,↓rrv,↓dN,↓dT,↓dTn,↓dTc,↓rsv,↓Gs.set,↓dFor,↓dItems,↓dRange1,↓dLc,↓dCB,↓cLen,↓cAll,↓cTuple,↓cInt1,↓cInt2,↓dIsi,↓dSetS,↓oSub,↓oAddI,↓oMul,↓oDiv,↓oMod,↓oShl,↓oPow,↓oLt,↓oLe,↓oGt,↓oGe,↓oAbs,↓oMin,↓cMinL,↓cSortedD,↓dSl,↓oNo,↓oSo,↓dBy,↓dD0,↓cLZ,↓dEnum,↓fMulT,↓cReprX,↓dRaise,↓dRaise0,↓dStop,↓dDropX,↓dAsgX,↓dTup2X,↓dCallX,↓dXval,↓dTry,↓dHand,↓dAs,↓gAs,↓Gs.unset,↓rtN,↓dLam,↓dAct,↓lamF,↓gLam,↓plainO,↓Z.isNon,↓dIfT,lE,fs__law_due,ent,svOf,List.map_cons,List.map_nil,List.cons_append,List.nil_append,List.append_nil,List.replicate,List.length_cons,List.length_nil,List.getElem?_cons_zero,List.getElem?_cons_succ,List.getElem?_nil,List.set_cons_zero,List.set_cons_succ,Option.map_some,Option.map_none,Option.isNone_some,Option.isNone_none,forall_const,true_implies,false_implies,and_true,true_and,Bool.true_eq_false,Bool.false_eq_true,reduceCtorEq,noOwn,wipeS,hide,fuN_self,lcD,dYes,Nat.zero_add,Nat.reduceAdd,Nat.reduceLeDiff,Nat.reduceSub,atI_0,atI_1,atI_2,atI_3,atI_4,atI_5,Int.one_mul,eqv_ii,eqv_ss,eqv_num,shaped_int,shaped_num,shaped_none,shaped_ru,flat_str,flat_int,flat_none,List.all_cons,List.all_nil,Bool.and_true,decide_eq_true_eq,decide_eq_false_iff_not,Bool.not_eq_true',Bool.not_eq_false',Decidable.not_not,↓reduceIte,Bool.false_eq_true,Int.reduceLT,eqv_strs,pick_0,pick_01,pick_10,pick_012,pick_021,pick_102,pick_120,pick_201,pick_210]
    refine ⟨_, _, true, some .dif, rfl, lv, lu, .w hc hc' hw, ?_⟩
    simp only [↓dSeq,↓dAsg,↓dSetL,↓dNext,↓dIfS,↓dRet,↓dRetL,↓dDrop,↓dNever,↓dAug,↓dPar,↓dParL,↓dApp,↓dVar,↓dC,↓dBin,↓fI,↓fI0,↓fAdd,↓fEq,↓fNe,↓fIn,↓dTest,↓dAndT,↓dOrT,↓dNotT,↓dAndV,↓dOrV,↓dNotV,↓dIf,↓dIsN,↓dChain,↓dNil,↓dCons,↓dTup,↓dLst,↓dFz,↓valsD,↓dIx,↓dCall,↓dCallL,↓hasSrc,↓rrv,↓dN,↓dT,↓dTn,↓dTc,↓rsv,↓Gs.set,↓dFor,↓dItems,↓dRange1,↓dLc,↓dCB,↓cLen,↓cAll,↓cTuple,↓cInt1,↓cInt2,↓dIsi,↓dSetS,↓oSub,↓oAddI,↓oMul,↓oDiv,↓oMod,↓oShl,↓oPow,↓oLt,↓oLe,↓oGt,↓oGe,↓oAbs,↓oMin,↓cMinL,↓cSortedD,↓dSl,↓oNo,↓oSo,↓dBy,↓dD0,↓cLZ,↓dEnum,↓fMulT,↓cReprX,↓dRaise,↓dRaise0,↓dStop,↓dDropX,↓dAsgX,↓dTup2X,↓dCallX,↓dXval,↓dTry,↓dHand,↓dAs,↓gAs,↓Gs.unset,↓rtN,↓dLam,↓dAct,↓lamF,↓gLam,↓plainO,↓Z.isNon,↓dIfT,oD,tdD,ent,svOf,List.map_cons,List.map_nil,List.cons_append,List.nil_append,List.append_nil,List.replicate,List.length_cons,List.length_nil,List.getElem?_cons_zero,List.getElem?_cons_succ,List.getElem?_nil,List.set_cons_zero,List.set_cons_succ,Option.map_some,Option.map_none,Option.isNone_some,Option.isNone_none,forall_const,true_implies,false_implies,and_true,true_and,Bool.true_eq_false,Bool.false_eq_true,reduceCtorEq,noOwn,wipeS,hide,fuN_self,lcD,dYes,Nat.zero_add,Nat.reduceAdd,Nat.reduceLeDiff,Nat.reduceSub,atI_0,atI_1,atI_2,atI_3,atI_4,atI_5,Int.one_mul,eqv_ii,eqv_ss,eqv_num,shaped_int,shaped_num,shaped_none,shaped_ru,flat_str,flat_int,flat_none,List.all_cons,List.all_nil,Bool.and_true,decide_eq_true_eq,decide_eq_false_iff_not,Bool.not_eq_true',Bool.not_eq_false',Decidable.not_not,↓reduceIte,Bool.false_eq_true,Int.reduceLT,eqv_strs,pick_0,pick_01,pick_10,pick_012,pick_021,pick_102,pick_120,pick_201,pick_210]
    refine ⟨_, _, false, none, rfl, lv, lu, .n hc hc' (fun z => Bool.noConfusion z), ?_⟩
    have sr : SeqAt.shaped (.tuple [.str (Str.ofString "returned"), .bool false]) = true := by decide +kernel
    have er : (PyData.tuple [.str (Str.ofString "returned"), .bool false]).eqv (.tuple [.str (Str.ofString "returned"), .bool false]) = true := by decide +kernel
    simp only [↓dSeq,↓dAsg,↓dSetL,↓dNext,↓dIfS,↓dRet,↓dRetL,↓dDrop,↓dNever,↓dAug,↓dPar,↓dParL,↓dApp,↓dVar,↓dC,↓dBin,↓fI,↓fI0,↓fAdd,↓fEq,↓fNe,↓fIn,↓dTest,↓dAndT,↓dOrT,↓dNotT,↓dAndV,↓dOrV,↓dNotV,↓dIf,↓dIsN,↓dChain,↓dNil,↓dCons,↓dTup,↓dLst,↓dFz,↓valsD,↓dIx,↓dCall,↓dCallL,↓hasSrc,↓rrv,↓dN,↓dT,↓dTn,↓dTc,↓rsv,↓Gs.set,↓dFor,↓dItems,↓dRange1,↓dLc,↓dCB,↓cLen,↓cAll,↓cTuple,↓cInt1,↓cInt2,↓dIsi,↓dSetS,↓oSub,↓oAddI,↓oMul,↓oDiv,↓oMod,↓oShl,↓oPow,↓oLt,↓oLe,↓oGt,↓oGe,↓oAbs,↓oMin,↓cMinL,↓cSortedD,↓dSl,↓oNo,↓oSo,↓dBy,↓dD0,↓cLZ,↓dEnum,↓fMulT,↓cReprX,↓dRaise,↓dRaise0,↓dStop,↓dDropX,↓dAsgX,↓dTup2X,↓dCallX,↓dXval,↓dTry,↓dHand,↓dAs,↓gAs,↓Gs.unset,↓rtN,↓dLam,↓dAct,↓lamF,↓gLam,↓plainO,↓Z.isNon,↓dIfT,oD,tdD,er,ent,svOf,List.map_cons,List.map_nil,List.cons_append,List.nil_append,List.append_nil,List.replicate,List.length_cons,List.length_nil,List.getElem?_cons_zero,List.getElem?_cons_succ,List.getElem?_nil,List.set_cons_zero,List.set_cons_succ,Option.map_some,Option.map_none,Option.isNone_some,Option.isNone_none,forall_const,true_implies,false_implies,and_true,true_and,Bool.true_eq_false,Bool.false_eq_true,reduceCtorEq,noOwn,wipeS,hide,fuN_self,lcD,dYes,Nat.zero_add,Nat.reduceAdd,Nat.reduceLeDiff,Nat.reduceSub,atI_0,atI_1,atI_2,atI_3,atI_4,atI_5,Int.one_mul,eqv_ii,eqv_ss,eqv_num,shaped_int,shaped_num,shaped_none,shaped_ru,flat_str,flat_int,flat_none,List.all_cons,List.all_nil,Bool.and_true,decide_eq_true_eq,decide_eq_false_iff_not,Bool.not_eq_true',Bool.not_eq_false',Decidable.not_not,↓reduceIte,Bool.false_eq_true,Int.reduceLT,eqv_strs,pick_0,pick_01,pick_10,pick_012,pick_021,pick_102,pick_120,pick_201,pick_210]
    exact ⟨sr, sr, h _ _ _ _ _⟩
  | @k c c' d hc hc' hw hd =>
    have sh := shx_back (b := sameB c c') hc hc' hd
    have q := shaped_str sh.cps
    obtain ⟨hT, w1, w2⟩ := chT_B hc.ne hc.w
    obtain ⟨hU, _, _⟩ := chT_B hc'.ne hc'.w
    have e1 := same_comm hw
    have e2 : znD (chT c').1 (chT c').2 (chT c).2 = znD (chT c).1 (chT c).2 (chT c').2 := by rw [← hw]; exact zn_comm hT hU
    simp only [↓dSeq,↓dAsg,↓dSetL,↓dNext,↓dIfS,↓dRet,↓dRetL,↓dDrop,↓dNever,↓dAug,↓dPar,↓dParL,↓dApp,↓dVar,↓dC,↓dBin,↓fI,↓fI0,↓fAdd,↓fEq,↓fNe,↓fIn,↓dTest,↓dAndT,↓dOrT,↓dNotT,↓dAndV,↓dOrV,↓dNotV,↓dIf,↓dIsN,↓dChain,↓dNil,↓dCons,↓dTup,↓dLst,↓dFz,↓valsD,↓dIx,↓dCall,↓dCallL,↓hasSrc,↓rrv,↓dN,↓dT,↓dTn,↓dTc,↓rsv,↓Gs.set,↓dFor,↓dItems,↓dRange1,↓dLc,↓dCB,↓cLen,↓cAll,↓cTuple,↓cInt1,↓cInt2,↓dIsi,↓dSetS,↓oSub,↓oAddI,↓oMul,↓oDiv,↓oMod,↓oShl,↓oPow,↓oLt,↓oLe,↓oGt,↓oGe,↓oAbs,↓oMin,↓cMinL,↓cSortedD,↓dSl,↓oNo,↓oSo,↓dBy,↓dD0,↓cLZ,↓dEnum,↓fMulT,↓cReprX,↓dRaise,↓dRaise0,↓dStop,↓dDropX,↓dAsgX,↓dTup2X,↓dCallX,↓dXval,↓dTry,↓dHand,↓dAs,↓gAs,↓Gs.unset,↓rtN,↓dLam,↓dAct,↓lamF,↓gLam,↓plainO,↓Z.isNon,↓dIfT,lE,fs__law_due,ent,svOf,List.map_cons,List.map_nil,List.cons_append,List.nil_append,List.append_nil,List.replicate,List.length_cons,List.length_nil,List.getElem?_cons_zero,List.getElem?_cons_succ,List.getElem?_nil,List.set_cons_zero,List.set_cons_succ,Option.map_some,Option.map_none,Option.isNone_some,Option.isNone_none,forall_const,true_implies,false_implies,and_true,true_and,Bool.true_eq_false,Bool.false_eq_true,reduceCtorEq,noOwn,wipeS,hide,fuN_self,lcD,dYes,Nat.zero_add,Nat.reduceAdd,Nat.reduceLeDiff,Nat.reduceSub,atI_0,atI_1,atI_2,atI_3,atI_4,atI_5,Int.one_mul,eqv_ii,eqv_ss,eqv_num,shaped_int,shaped_num,shaped_none,shaped_ru,flat_str,flat_int,flat_none,List.all_cons,List.all_nil,Bool.and_true,decide_eq_true_eq,decide_eq_false_iff_not,Bool.not_eq_true',Bool.not_eq_false',Decidable.not_not,↓reduceIte,Bool.false_eq_true,Int.reduceLT,eqv_strs,pick_0,pick_01,pick_10,pick_012,pick_021,pick_102,pick_120,pick_201,pick_210]
    refine ⟨_, _, true, none, rfl, lv, lu, .n hc hc' (fun _ => hw), ?_⟩
    simp only [↓dSeq,↓dAsg,↓dSetL,↓dNext,↓dIfS,↓dRet,↓dRetL,↓dDrop,↓dNever,↓dAug,↓dPar,↓dParL,↓dApp,↓dVar,↓dC,↓dBin,↓fI,↓fI0,↓fAdd,↓fEq,↓fNe,↓fIn,↓dTest,↓dAndT,↓dOrT,↓dNotT,↓dAndV,↓dOrV,↓dNotV,↓dIf,↓dIsN,↓dChain,↓dNil,↓dCons,↓dTup,↓dLst,↓dFz,↓valsD,↓dIx,↓dCall,↓dCallL,↓hasSrc,↓rrv,↓dN,↓dT,↓dTn,↓dTc,↓rsv,↓Gs.set,↓dFor,↓dItems,↓dRange1,↓dLc,↓dCB,↓cLen,↓cAll,↓cTuple,↓cInt1,↓cInt2,↓dIsi,↓dSetS,↓oSub,↓oAddI,↓oMul,↓oDiv,↓oMod,↓oShl,↓oPow,↓oLt,↓oLe,↓oGt,↓oGe,↓oAbs,↓oMin,↓cMinL,↓cSortedD,↓dSl,↓oNo,↓oSo,↓dBy,↓dD0,↓cLZ,↓dEnum,↓fMulT,↓cReprX,↓dRaise,↓dRaise0,↓dStop,↓dDropX,↓dAsgX,↓dTup2X,↓dCallX,↓dXval,↓dTry,↓dHand,↓dAs,↓gAs,↓Gs.unset,↓rtN,↓dLam,↓dAct,↓lamF,↓gLam,↓plainO,↓Z.isNon,↓dIfT,oD,tdD,fs_same,ent,svOf,List.map_cons,List.map_nil,List.cons_append,List.nil_append,List.append_nil,List.replicate,List.length_cons,List.length_nil,List.getElem?_cons_zero,List.getElem?_cons_succ,List.getElem?_nil,List.set_cons_zero,List.set_cons_succ,Option.map_some,Option.map_none,Option.isNone_some,Option.isNone_none,forall_const,true_implies,false_implies,and_true,true_and,Bool.true_eq_false,Bool.false_eq_true,reduceCtorEq,noOwn,wipeS,hide,fuN_self,lcD,dYes,Nat.zero_add,Nat.reduceAdd,Nat.reduceLeDiff,Nat.reduceSub,atI_0,atI_1,atI_2,atI_3,atI_4,atI_5,Int.one_mul,eqv_ii,eqv_ss,eqv_num,shaped_int,shaped_num,shaped_none,shaped_ru,flat_str,flat_int,flat_none,List.all_cons,List.all_nil,Bool.and_true,decide_eq_true_eq,decide_eq_false_iff_not,Bool.not_eq_true',Bool.not_eq_false',Decidable.not_not,↓reduceIte,Bool.false_eq_true,Int.reduceLT,eqv_strs,pick_0,pick_01,pick_10,pick_012,pick_021,pick_102,pick_120,pick_201,pick_210]
    refine ⟨c', c, rfl, hc', hc, ?_⟩
    simp only [↓dSeq,↓dAsg,↓dSetL,↓dNext,↓dIfS,↓dRet,↓dRetL,↓dDrop,↓dNever,↓dAug,↓dPar,↓dParL,↓dApp,↓dVar,↓dC,↓dBin,↓fI,↓fI0,↓fAdd,↓fEq,↓fNe,↓fIn,↓dTest,↓dAndT,↓dOrT,↓dNotT,↓dAndV,↓dOrV,↓dNotV,↓dIf,↓dIsN,↓dChain,↓dNil,↓dCons,↓dTup,↓dLst,↓dFz,↓valsD,↓dIx,↓dCall,↓dCallL,↓hasSrc,↓rrv,↓dN,↓dT,↓dTn,↓dTc,↓rsv,↓Gs.set,↓dFor,↓dItems,↓dRange1,↓dLc,↓dCB,↓cLen,↓cAll,↓cTuple,↓cInt1,↓cInt2,↓dIsi,↓dSetS,↓oSub,↓oAddI,↓oMul,↓oDiv,↓oMod,↓oShl,↓oPow,↓oLt,↓oLe,↓oGt,↓oGe,↓oAbs,↓oMin,↓cMinL,↓cSortedD,↓dSl,↓oNo,↓oSo,↓dBy,↓dD0,↓cLZ,↓dEnum,↓fMulT,↓cReprX,↓dRaise,↓dRaise0,↓dStop,↓dDropX,↓dAsgX,↓dTup2X,↓dCallX,↓dXval,↓dTry,↓dHand,↓dAs,↓gAs,↓Gs.unset,↓rtN,↓dLam,↓dAct,↓lamF,↓gLam,↓plainO,↓Z.isNon,↓dIfT,fs_zones,ent,svOf,List.map_cons,List.map_nil,List.cons_append,List.nil_append,List.append_nil,List.replicate,List.length_cons,List.length_nil,List.getElem?_cons_zero,List.getElem?_cons_succ,List.getElem?_nil,List.set_cons_zero,List.set_cons_succ,Option.map_some,Option.map_none,Option.isNone_some,Option.isNone_none,forall_const,true_implies,false_implies,and_true,true_and,Bool.true_eq_false,Bool.false_eq_true,reduceCtorEq,noOwn,wipeS,hide,fuN_self,lcD,dYes,Nat.zero_add,Nat.reduceAdd,Nat.reduceLeDiff,Nat.reduceSub,atI_0,atI_1,atI_2,atI_3,atI_4,atI_5,Int.one_mul,eqv_ii,eqv_ss,eqv_num,shaped_int,shaped_num,shaped_none,shaped_ru,flat_str,flat_int,flat_none,List.all_cons,List.all_nil,Bool.and_true,decide_eq_true_eq,decide_eq_false_iff_not,Bool.not_eq_true',Bool.not_eq_false',Decidable.not_not,↓reduceIte,Bool.false_eq_true,Int.reduceLT,eqv_strs,pick_0,pick_01,pick_10,pick_012,pick_021,pick_102,pick_120,pick_201,pick_210]
    refine ⟨c', c, rfl, hc', hc, hw.symm, ?_⟩
    simp only [↓dSeq,↓dAsg,↓dSetL,↓dNext,↓dIfS,↓dRet,↓dRetL,↓dDrop,↓dNever,↓dAug,↓dPar,↓dParL,↓dApp,↓dVar,↓dC,↓dBin,↓fI,↓fI0,↓fAdd,↓fEq,↓fNe,↓fIn,↓dTest,↓dAndT,↓dOrT,↓dNotT,↓dAndV,↓dOrV,↓dNotV,↓dIf,↓dIsN,↓dChain,↓dNil,↓dCons,↓dTup,↓dLst,↓dFz,↓valsD,↓dIx,↓dCall,↓dCallL,↓hasSrc,↓rrv,↓dN,↓dT,↓dTn,↓dTc,↓rsv,↓Gs.set,↓dFor,↓dItems,↓dRange1,↓dLc,↓dCB,↓cLen,↓cAll,↓cTuple,↓cInt1,↓cInt2,↓dIsi,↓dSetS,↓oSub,↓oAddI,↓oMul,↓oDiv,↓oMod,↓oShl,↓oPow,↓oLt,↓oLe,↓oGt,↓oGe,↓oAbs,↓oMin,↓cMinL,↓cSortedD,↓dSl,↓oNo,↓oSo,↓dBy,↓dD0,↓cLZ,↓dEnum,↓fMulT,↓cReprX,↓dRaise,↓dRaise0,↓dStop,↓dDropX,↓dAsgX,↓dTup2X,↓dCallX,↓dXval,↓dTry,↓dHand,↓dAs,↓gAs,↓Gs.unset,↓rtN,↓dLam,↓dAct,↓lamF,↓gLam,↓plainO,↓Z.isNon,↓dIfT,fs_simplest_difference,ent,svOf,List.map_cons,List.map_nil,List.cons_append,List.nil_append,List.append_nil,List.replicate,List.length_cons,List.length_nil,List.getElem?_cons_zero,List.getElem?_cons_succ,List.getElem?_nil,List.set_cons_zero,List.set_cons_succ,Option.map_some,Option.map_none,Option.isNone_some,Option.isNone_none,forall_const,true_implies,false_implies,and_true,true_and,Bool.true_eq_false,Bool.false_eq_true,reduceCtorEq,noOwn,wipeS,hide,fuN_self,lcD,dYes,Nat.zero_add,Nat.reduceAdd,Nat.reduceLeDiff,Nat.reduceSub,atI_0,atI_1,atI_2,atI_3,atI_4,atI_5,Int.one_mul,eqv_ii,eqv_ss,eqv_num,shaped_int,shaped_num,shaped_none,shaped_ru,flat_str,flat_int,flat_none,List.all_cons,List.all_nil,Bool.and_true,decide_eq_true_eq,decide_eq_false_iff_not,Bool.not_eq_true',Bool.not_eq_false',Decidable.not_not,↓reduceIte,Bool.false_eq_true,Int.reduceLT,eqv_strs,pick_0,pick_01,pick_10,pick_012,pick_021,pick_102,pick_120,pick_201,pick_210]
    refine ⟨c', c, rfl, hc', hc, hw.symm, ?_⟩
    rw [e1, e2]
    have fin : ∀ e, SDok c' c e → d = e := fun e he => (sd_uniq hw hd he).symm
    refine ⟨fun h1 h2 => ?_, fun t b j s => ?_⟩
    · obtain rfl := fin _ (.inl ⟨h1, h2, rfl⟩)
      exact ⟨sh, by decide, by decide, by decide, sh, q, q, fun z => absurd rfl z, fun _ => h _ _ _ _ _⟩
    · obtain rfl := fin _ (.inr ⟨t, b, j, s, rfl⟩)
      exact ⟨sh, by decide, by decide, by decide, sh, q, q, fun z => absurd rfl z, fun _ => h _ _ _ _ _⟩
def lB : DS := (dSeq (dAsg (dCall 4 fs__law_value (dCons (dVar 2) (dCons (dBin fAdd (dC (.int 2)) (dCall 2 fs__law_draw (dCons (dVar 2) (dCons (dC (.int 2)) dNil)))) (dCons (dC (.int 3)) (dCons (dC (.int 4)) dNil))))) (dN 4))
  (dSeq (dAsg (dCall 4 fs__law_value (dCons (dVar 2) (dCons (dBin fAdd (dC (.int 2)) (dCall 2 fs__law_draw (dCons (dVar 2) (dCons (dC (.int 2)) dNil)))) (dCons (dC (.int 3)) (dCons (dC (.int 4)) dNil))))) (dN 5))
  (lS (dSeq lF lE))))
theorem p_lB {D : DEnds} {s0 s1 s3 s4 s5 s6 s7 s8 s9 s10 s11 : Option Sv} {m : Nat}
    (h : ∀ (m' : Nat) (s4 s5 s6 s7 s8 s9 s10 s11 : Option Sv), m ≤ m' → D.nx ⟨[s0, s1, some .src, s3, s4, s5, s6, s7, s8, s9, s10, s11], some m', true⟩) :
    lB D ⟨[s0, s1, some .src, s3, s4, s5, s6, s7, s8, s9, s10, s11], some (m + 200), true⟩ := by
  have l1 : ∀ (v u : Da) (m' : Nat) (s6 s7 s8 s9 s10 s11 : Option Sv), m ≤ m' → VU v u → lS (dSeq lF lE) D ⟨[s0, s1, some .src, s3, some (.val v), some (.val u), s6, s7, s8, s9, s10, s11], some m', true⟩ := fun v u m' s6 s7 s8 s9 s10 s11 hm hv =>
    p_lS hv fun o1 o2 o3 hr => p_lF (D := { D with nx := lE D }) hv hr fun s7 s8 s9 s10 => p_lE hv hr fun s7 s8 s9 s10 s11 => h _ _ _ _ _ _ _ _ _ hm
  generalize ll : lS (dSeq lF lE) = L at l1
  unfold lB
  rw [ll]
  have b2 : Bn 9000 (2 : Int) := Bn.small (by decide) (by decide) (by decide)
  simp only [↓dSeq,↓dAsg,↓dSetL,↓dNext,↓dIfS,↓dRet,↓dRetL,↓dDrop,↓dNever,↓dAug,↓dPar,↓dParL,↓dApp,↓dVar,↓dC,↓dBin,↓fI,↓fI0,↓fAdd,↓fEq,↓fNe,↓fIn,↓dTest,↓dAndT,↓dOrT,↓dNotT,↓dAndV,↓dOrV,↓dNotV,↓dIf,↓dIsN,↓dChain,↓dNil,↓dCons,↓dTup,↓dLst,↓dFz,↓valsD,↓dIx,↓dCall,↓dCallL,↓hasSrc,↓rrv,↓dN,↓dT,↓dTn,↓dTc,↓rsv,↓Gs.set,↓dFor,↓dItems,↓dRange1,↓dLc,↓dCB,↓cLen,↓cAll,↓cTuple,↓cInt1,↓cInt2,↓dIsi,↓dSetS,↓oSub,↓oAddI,↓oMul,↓oDiv,↓oMod,↓oShl,↓oPow,↓oLt,↓oLe,↓oGt,↓oGe,↓oAbs,↓oMin,↓cMinL,↓cSortedD,↓dSl,↓oNo,↓oSo,↓dBy,↓dD0,↓cLZ,↓dEnum,↓fMulT,↓cReprX,↓dRaise,↓dRaise0,↓dStop,↓dDropX,↓dAsgX,↓dTup2X,↓dCallX,↓dXval,↓dTry,↓dHand,↓dAs,↓gAs,↓Gs.unset,↓rtN,↓dLam,↓dAct,↓lamF,↓gLam,↓plainO,↓Z.isNon,↓dIfT,fs__law_draw,fs__law_value,ent,svOf,List.map_cons,List.map_nil,List.cons_append,List.nil_append,List.append_nil,List.replicate,List.length_cons,List.length_nil,List.getElem?_cons_zero,List.getElem?_cons_succ,List.getElem?_nil,List.set_cons_zero,List.set_cons_succ,Option.map_some,Option.map_none,Option.isNone_some,Option.isNone_none,forall_const,true_implies,false_implies,and_true,true_and,Bool.true_eq_false,Bool.false_eq_true,reduceCtorEq,noOwn,wipeS,hide,fuN_self,lcD,dYes,Nat.zero_add,Nat.reduceAdd,Nat.reduceLeDiff,Nat.reduceSub,atI_0,atI_1,atI_2,atI_3,atI_4,atI_5,Int.one_mul,eqv_ii,eqv_ss,eqv_num,shaped_int,shaped_num,shaped_none,shaped_ru,flat_str,flat_int,flat_none,List.all_cons,List.all_nil,Bool.and_true,decide_eq_true_eq,decide_eq_false_iff_not,Bool.not_eq_true',Bool.not_eq_false',Decidable.not_not,↓reduceIte,Bool.false_eq_true,Int.reduceLT,eqv_strs,pick_0,pick_01,pick_10,pick_012,pick_021,pick_102,pick_120,pick_201,pick_210]
  refine ⟨2, m + 199, rfl, rfl, by decide, b2, fun i i0 i1 => ⟨_, 3, 4, m + 198, rfl, by congr 1, by omega, by decide, by decide, by decide, by omega, by omega, fun c m1 hm1 hd he => ?_, fun d m1 hm1 ho => ?_⟩⟩
  all_goals
    obtain ⟨m2, rfl⟩ : ∃ m2, m1 = m2 + 2 := ⟨m1 - 2, by omega⟩
    try simp only [↓dSeq,↓dAsg,↓dSetL,↓dNext,↓dIfS,↓dRet,↓dRetL,↓dDrop,↓dNever,↓dAug,↓dPar,↓dParL,↓dApp,↓dVar,↓dC,↓dBin,↓fI,↓fI0,↓fAdd,↓fEq,↓fNe,↓fIn,↓dTest,↓dAndT,↓dOrT,↓dNotT,↓dAndV,↓dOrV,↓dNotV,↓dIf,↓dIsN,↓dChain,↓dNil,↓dCons,↓dTup,↓dLst,↓dFz,↓valsD,↓dIx,↓dCall,↓dCallL,↓hasSrc,↓rrv,↓dN,↓dT,↓dTn,↓dTc,↓rsv,↓Gs.set,↓dFor,↓dItems,↓dRange1,↓dLc,↓dCB,↓cLen,↓cAll,↓cTuple,↓cInt1,↓cInt2,↓dIsi,↓dSetS,↓oSub,↓oAddI,↓oMul,↓oDiv,↓oMod,↓oShl,↓oPow,↓oLt,↓oLe,↓oGt,↓oGe,↓oAbs,↓oMin,↓cMinL,↓cSortedD,↓dSl,↓oNo,↓oSo,↓dBy,↓dD0,↓cLZ,↓dEnum,↓fMulT,↓cReprX,↓dRaise,↓dRaise0,↓dStop,↓dDropX,↓dAsgX,↓dTup2X,↓dCallX,↓dXval,↓dTry,↓dHand,↓dAs,↓gAs,↓Gs.unset,↓rtN,↓dLam,↓dAct,↓lamF,↓gLam,↓plainO,↓Z.isNon,↓dIfT,fs__law_draw,fs__law_value,ent,svOf,List.map_cons,List.map_nil,List.cons_append,List.nil_append,List.append_nil,List.replicate,List.length_cons,List.length_nil,List.getElem?_cons_zero,List.getElem?_cons_succ,List.getElem?_nil,List.set_cons_zero,List.set_cons_succ,Option.map_some,Option.map_none,Option.isNone_some,Option.isNone_none,forall_const,true_implies,false_implies,and_true,true_and,Bool.true_eq_false,Bool.false_eq_true,reduceCtorEq,noOwn,wipeS,hide,fuN_self,lcD,dYes,Nat.zero_add,Nat.reduceAdd,Nat.reduceLeDiff,Nat.reduceSub,atI_0,atI_1,atI_2,atI_3,atI_4,atI_5,Int.one_mul,eqv_ii,eqv_ss,eqv_num,shaped_int,shaped_num,shaped_none,shaped_ru,flat_str,flat_int,flat_none,List.all_cons,List.all_nil,Bool.and_true,decide_eq_true_eq,decide_eq_false_iff_not,Bool.not_eq_true',Bool.not_eq_false',Decidable.not_not,↓reduceIte,Bool.false_eq_true,Int.reduceLT,eqv_strs,pick_0,pick_01,pick_10,pick_012,pick_021,pick_102,pick_120,pick_201,pick_210]
    refine ⟨2, m2 + 1, rfl, rfl, by decide, b2, fun j j0 j1 => ⟨_, 3, 4, m2, rfl, by congr 1, by omega, by decide, by decide, by decide, by omega, by omega, fun c' m3 hm3 hd' he' => ?_, fun d' m3 hm3 ho' => ?_⟩⟩
  · exact l1 _ _ _ _ _ _ _ _ _ (by omega) (.c (hd.chn (by omega) (by omega) (by decide)) (hd'.chn (by omega) (by omega) (by decide)))
  · exact l1 _ _ _ _ _ _ _ _ _ (by omega) (.b (hd.chn (by omega) (by omega) (by decide)) ho')
  · exact l1 _ _ _ _ _ _ _ _ _ (by omega) (.a ho (shx_c (hd'.chn (by omega) (by omega) (by decide))))
  · exact l1 _ _ _ _ _ _ _ _ _ (by omega) (.a ho ho'.sh)
theorem p_law (rs : List Rv) (fu : Option Nat) (post : Rr → Option Nat → Prop) (hl : rs.length = 1) (h : fs_law rs fu post) : b_law ⟨fun g => post (.val .none) g.fu, rtN post, fun _ => False, fun _ => False⟩ (ent N_law rs fu) := by
  obtain ⟨ns, rfl, rfl, h⟩ := h
  show (dSeq (dFor (dRange1 (dBin fAdd (dC (.int 1)) (dCB oMin (dCons (dC (.int 2)) (dCons (dCB cLen (dCons (dVar 0) dNil)) dNil))))) (dN 1)
    (dSeq (dSetS 1000000 2 (dCallL 2 fs__law_source (dCons (dVar 0) (dCons (dVar 1) dNil)))) (dFor (dRange1 (dC (.int 8))) (dN 3) lB))) (dRet (dC (.bool true)))) _ _
  generalize lw : lB = L
  simp only [↓dSeq,↓dAsg,↓dSetL,↓dNext,↓dIfS,↓dRet,↓dRetL,↓dDrop,↓dNever,↓dAug,↓dPar,↓dParL,↓dApp,↓dVar,↓dC,↓dBin,↓fI,↓fI0,↓fAdd,↓fEq,↓fNe,↓fIn,↓dTest,↓dAndT,↓dOrT,↓dNotT,↓dAndV,↓dOrV,↓dNotV,↓dIf,↓dIsN,↓dChain,↓dNil,↓dCons,↓dTup,↓dLst,↓dFz,↓valsD,↓dIx,↓dCall,↓dCallL,↓hasSrc,↓rrv,↓dN,↓dT,↓dTn,↓dTc,↓rsv,↓Gs.set,↓dFor,↓dItems,↓dRange1,↓dLc,↓dCB,↓cLen,↓cAll,↓cTuple,↓cInt1,↓cInt2,↓dIsi,↓dSetS,↓oSub,↓oAddI,↓oMul,↓oDiv,↓oMod,↓oShl,↓oPow,↓oLt,↓oLe,↓oGt,↓oGe,↓oAbs,↓oMin,↓cMinL,↓cSortedD,↓dSl,↓oNo,↓oSo,↓dBy,↓dD0,↓cLZ,↓dEnum,↓fMulT,↓cReprX,↓dRaise,↓dRaise0,↓dStop,↓dDropX,↓dAsgX,↓dTup2X,↓dCallX,↓dXval,↓dTry,↓dHand,↓dAs,↓gAs,↓Gs.unset,↓rtN,↓dLam,↓dAct,↓lamF,↓gLam,↓plainO,↓Z.isNon,↓dIfT,ent,svOf,List.map_cons,List.map_nil,List.cons_append,List.nil_append,List.append_nil,List.replicate,List.length_cons,List.length_nil,List.getElem?_cons_zero,List.getElem?_cons_succ,List.getElem?_nil,List.set_cons_zero,List.set_cons_succ,Option.map_some,Option.map_none,Option.isNone_some,Option.isNone_none,forall_const,true_implies,false_implies,and_true,true_and,Bool.true_eq_false,Bool.false_eq_true,reduceCtorEq,noOwn,wipeS,hide,fuN_self,lcD,dYes,Nat.zero_add,Nat.reduceAdd,Nat.reduceLeDiff,Nat.reduceSub,atI_0,atI_1,atI_2,atI_3,atI_4,atI_5,Int.one_mul,eqv_ii,eqv_ss,eqv_num,shaped_int,shaped_num,shaped_none,shaped_ru,flat_str,flat_int,flat_none,List.all_cons,List.all_nil,Bool.and_true,decide_eq_true_eq,decide_eq_false_iff_not,Bool.not_eq_true',Bool.not_eq_false',Decidable.not_not,↓reduceIte,Bool.false_eq_true,Int.reduceLT,eqv_strs,pick_0,pick_01,pick_10,pick_012,pick_021,pick_102,pick_120,pick_201,pick_210]
  generalize hj : (1 + (if _ < (2 : Int) then _ else _) : Int) = j
  have j0 : j ≤ 3 ∧ 0 ≤ j := by subst hj; split <;> omega
  refine ⟨by omega, by omega, forD_inv (fun g => ∃ s1 s2 s3 s4 s5 s6 s7 s8 s9 s10 s11 fu, g = ⟨[some (.scr ns), s1, s2, s3, s4, s5, s6, s7, s8, s9, s10, s11], fu, true⟩) (fun x hx g hg N hN => ?_) (fun g hg => ?_) ⟨_, _, _, _, _, _, _, _, _, _, _, _, rfl⟩⟩
  · obtain ⟨s1, s2, s3, s4, s5, s6, s7, s8, s9, s10, s11, fu, rfl⟩ := hg
    obtain ⟨i, rfl, i0, i1⟩ := rangeD_mem hx
    simp only [↓dSeq,↓dAsg,↓dSetL,↓dNext,↓dIfS,↓dRet,↓dRetL,↓dDrop,↓dNever,↓dAug,↓dPar,↓dParL,↓dApp,↓dVar,↓dC,↓dBin,↓fI,↓fI0,↓fAdd,↓fEq,↓fNe,↓fIn,↓dTest,↓dAndT,↓dOrT,↓dNotT,↓dAndV,↓dOrV,↓dNotV,↓dIf,↓dIsN,↓dChain,↓dNil,↓dCons,↓dTup,↓dLst,↓dFz,↓valsD,↓dIx,↓dCall,↓dCallL,↓hasSrc,↓rrv,↓dN,↓dT,↓dTn,↓dTc,↓rsv,↓Gs.set,↓dFor,↓dItems,↓dRange1,↓dLc,↓dCB,↓cLen,↓cAll,↓cTuple,↓cInt1,↓cInt2,↓dIsi,↓dSetS,↓oSub,↓oAddI,↓oMul,↓oDiv,↓oMod,↓oShl,↓oPow,↓oLt,↓oLe,↓oGt,↓oGe,↓oAbs,↓oMin,↓cMinL,↓cSortedD,↓dSl,↓oNo,↓oSo,↓dBy,↓dD0,↓cLZ,↓dEnum,↓fMulT,↓cReprX,↓dRaise,↓dRaise0,↓dStop,↓dDropX,↓dAsgX,↓dTup2X,↓dCallX,↓dXval,↓dTry,↓dHand,↓dAs,↓gAs,↓Gs.unset,↓rtN,↓dLam,↓dAct,↓lamF,↓gLam,↓plainO,↓Z.isNon,↓dIfT,fs__law_source,noSrc,ent,svOf,List.map_cons,List.map_nil,List.cons_append,List.nil_append,List.append_nil,List.replicate,List.length_cons,List.length_nil,List.getElem?_cons_zero,List.getElem?_cons_succ,List.getElem?_nil,List.set_cons_zero,List.set_cons_succ,Option.map_some,Option.map_none,Option.isNone_some,Option.isNone_none,forall_const,true_implies,false_implies,and_true,true_and,Bool.true_eq_false,Bool.false_eq_true,reduceCtorEq,noOwn,wipeS,hide,fuN_self,lcD,dYes,Nat.zero_add,Nat.reduceAdd,Nat.reduceLeDiff,Nat.reduceSub,atI_0,atI_1,atI_2,atI_3,atI_4,atI_5,Int.one_mul,eqv_ii,eqv_ss,eqv_num,shaped_int,shaped_num,shaped_none,shaped_ru,flat_str,flat_int,flat_none,List.all_cons,List.all_nil,Bool.and_true,decide_eq_true_eq,decide_eq_false_iff_not,Bool.not_eq_true',Bool.not_eq_false',Decidable.not_not,↓reduceIte,Bool.false_eq_true,Int.reduceLT,eqv_strs,pick_0,pick_01,pick_10,pick_012,pick_021,pick_102,pick_120,pick_201,pick_210]
    refine ⟨ns, i, rfl, i0, by omega, fun x y hx0 hx hy0 hy => ⟨⟨x, y, 0, rfl, hx0, hx, hy0, hy, by decide, by decide⟩, by decide, by decide, ?_⟩⟩
    refine forD_ix (k := 0) (fun k g => ∃ (m : Nat) (s3 s4 s5 s6 s7 s8 s9 s10 s11 : Option Sv), 1000000 ≤ m + 200 * k ∧ g = ⟨[some (.scr ns), some (.val (.int i)), some .src, s3, s4, s5, s6, s7, s8, s9, s10, s11], some m, true⟩) (fun k x hx g hg N2 hN2 => ?_) (fun g hg => ?_) ⟨1000000, _, _, _, _, _, _, _, _, _, by omega, rfl⟩
    · obtain ⟨m0, s3, s4, s5, s6, s7, s8, s9, s10, s11, hm, rfl⟩ := hg
      have hk : k < 8 := by
        have := (List.getElem?_eq_some_iff.mp hx).1
        rw [rangeD_len] at this
        exact this
      obtain ⟨m, rfl⟩ : ∃ m, m0 = m + 200 := ⟨m0 - 200, by omega⟩
      simp only [↓dSeq,↓dAsg,↓dSetL,↓dNext,↓dIfS,↓dRet,↓dRetL,↓dDrop,↓dNever,↓dAug,↓dPar,↓dParL,↓dApp,↓dVar,↓dC,↓dBin,↓fI,↓fI0,↓fAdd,↓fEq,↓fNe,↓fIn,↓dTest,↓dAndT,↓dOrT,↓dNotT,↓dAndV,↓dOrV,↓dNotV,↓dIf,↓dIsN,↓dChain,↓dNil,↓dCons,↓dTup,↓dLst,↓dFz,↓valsD,↓dIx,↓dCall,↓dCallL,↓hasSrc,↓rrv,↓dN,↓dT,↓dTn,↓dTc,↓rsv,↓Gs.set,↓dFor,↓dItems,↓dRange1,↓dLc,↓dCB,↓cLen,↓cAll,↓cTuple,↓cInt1,↓cInt2,↓dIsi,↓dSetS,↓oSub,↓oAddI,↓oMul,↓oDiv,↓oMod,↓oShl,↓oPow,↓oLt,↓oLe,↓oGt,↓oGe,↓oAbs,↓oMin,↓cMinL,↓cSortedD,↓dSl,↓oNo,↓oSo,↓dBy,↓dD0,↓cLZ,↓dEnum,↓fMulT,↓cReprX,↓dRaise,↓dRaise0,↓dStop,↓dDropX,↓dAsgX,↓dTup2X,↓dCallX,↓dXval,↓dTry,↓dHand,↓dAs,↓gAs,↓Gs.unset,↓rtN,↓dLam,↓dAct,↓lamF,↓gLam,↓plainO,↓Z.isNon,↓dIfT,ent,svOf,List.map_cons,List.map_nil,List.cons_append,List.nil_append,List.append_nil,List.replicate,List.length_cons,List.length_nil,List.getElem?_cons_zero,List.getElem?_cons_succ,List.getElem?_nil,List.set_cons_zero,List.set_cons_succ,Option.map_some,Option.map_none,Option.isNone_some,Option.isNone_none,forall_const,true_implies,false_implies,and_true,true_and,Bool.true_eq_false,Bool.false_eq_true,reduceCtorEq,noOwn,wipeS,hide,fuN_self,lcD,dYes,Nat.zero_add,Nat.reduceAdd,Nat.reduceLeDiff,Nat.reduceSub,atI_0,atI_1,atI_2,atI_3,atI_4,atI_5,Int.one_mul,eqv_ii,eqv_ss,eqv_num,shaped_int,shaped_num,shaped_none,shaped_ru,flat_str,flat_int,flat_none,List.all_cons,List.all_nil,Bool.and_true,decide_eq_true_eq,decide_eq_false_iff_not,Bool.not_eq_true',Bool.not_eq_false',Decidable.not_not,↓reduceIte,Bool.false_eq_true,Int.reduceLT,eqv_strs,pick_0,pick_01,pick_10,pick_012,pick_021,pick_102,pick_120,pick_201,pick_210]
      rw [← lw]
      exact p_lB fun m' s4 s5 s6 s7 s8 s9 s10 s11 hm' => hN2 _ ⟨m', _, s4, s5, s6, s7, s8, s9, s10, s11, by omega, rfl⟩
    · obtain ⟨m0, s3, s4, s5, s6, s7, s8, s9, s10, s11, hm, rfl⟩ := hg
      exact hN _ ⟨_, _, _, _, _, _, _, _, _, _, _, _, rfl⟩
  · obtain ⟨s1, s2, s3, s4, s5, s6, s7, s8, s9, s10, s11, fu, rfl⟩ := hg
    simp only [↓dSeq,↓dAsg,↓dSetL,↓dNext,↓dIfS,↓dRet,↓dRetL,↓dDrop,↓dNever,↓dAug,↓dPar,↓dParL,↓dApp,↓dVar,↓dC,↓dBin,↓fI,↓fI0,↓fAdd,↓fEq,↓fNe,↓fIn,↓dTest,↓dAndT,↓dOrT,↓dNotT,↓dAndV,↓dOrV,↓dNotV,↓dIf,↓dIsN,↓dChain,↓dNil,↓dCons,↓dTup,↓dLst,↓dFz,↓valsD,↓dIx,↓dCall,↓dCallL,↓hasSrc,↓rrv,↓dN,↓dT,↓dTn,↓dTc,↓rsv,↓Gs.set,↓dFor,↓dItems,↓dRange1,↓dLc,↓dCB,↓cLen,↓cAll,↓cTuple,↓cInt1,↓cInt2,↓dIsi,↓dSetS,↓oSub,↓oAddI,↓oMul,↓oDiv,↓oMod,↓oShl,↓oPow,↓oLt,↓oLe,↓oGt,↓oGe,↓oAbs,↓oMin,↓cMinL,↓cSortedD,↓dSl,↓oNo,↓oSo,↓dBy,↓dD0,↓cLZ,↓dEnum,↓fMulT,↓cReprX,↓dRaise,↓dRaise0,↓dStop,↓dDropX,↓dAsgX,↓dTup2X,↓dCallX,↓dXval,↓dTry,↓dHand,↓dAs,↓gAs,↓Gs.unset,↓rtN,↓dLam,↓dAct,↓lamF,↓gLam,↓plainO,↓Z.isNon,↓dIfT,ent,svOf,List.map_cons,List.map_nil,List.cons_append,List.nil_append,List.append_nil,List.replicate,List.length_cons,List.length_nil,List.getElem?_cons_zero,List.getElem?_cons_succ,List.getElem?_nil,List.set_cons_zero,List.set_cons_succ,Option.map_some,Option.map_none,Option.isNone_some,Option.isNone_none,forall_const,true_implies,false_implies,and_true,true_and,Bool.true_eq_false,Bool.false_eq_true,reduceCtorEq,noOwn,wipeS,hide,fuN_self,lcD,dYes,Nat.zero_add,Nat.reduceAdd,Nat.reduceLeDiff,Nat.reduceSub,atI_0,atI_1,atI_2,atI_3,atI_4,atI_5,Int.one_mul,eqv_ii,eqv_ss,eqv_num,shaped_int,shaped_num,shaped_none,shaped_ru,flat_str,flat_int,flat_none,List.all_cons,List.all_nil,Bool.and_true,decide_eq_true_eq,decide_eq_false_iff_not,Bool.not_eq_true',Bool.not_eq_false',Decidable.not_not,↓reduceIte,Bool.false_eq_true,Int.reduceLT,eqv_strs,pick_0,pick_01,pick_10,pick_012,pick_021,pick_102,pick_120,pick_201,pick_210]
    exact h _
theorem law_true (ns : List Int) (hn : ns.length ≤ 63) : fs_law [.scr ns] none fun r _ => r = .val (.bool true) := ⟨ns, rfl, rfl, fun _ => rfl⟩
section
variable {P : Program} {w : World} {K : Fg} {mg : Str → Option Value} {base : Heap}
theorem d_law (T : Tx w K mg) {cdv : Value} {A : Around} {outer : List Env} {s : Shared} {H : Hp} {E : XK} (hB : TbB K mg base) (hc : T.fd_law.code = cdv) (hr : Room 11 (A.deeper (envOfC "law" (defScope st_law) s.heap.objs.size T.f_law cdv))) (hgd : (A.deeper (envOfC "law" (defScope st_law) s.heap.objs.size T.f_law cdv)).guards = some []) :
    PSs (cxOf CX0 P w K mg base N_law "law" (defScope st_law) T.f_law cdv A outer s H E).nox (defBody st_law) (upS K WF b_law) :=
  (ss_cons (s_for PassesOwn.never rfl (i_range1 (by rfl) T.n_range (e_add e_int (e_min rfl (by rfl) T.n_min (a_cons e_int (a_cons (e_len (by rfl) T.n_len (a_cons (e_var 0 (pv 0)) a_nil)) a_nil))))) (g_name (pg_name (i := 1) sc_law.nd rfl (.inl rfl))) (ss_cons (s_setS 1000000 (i := 2) sc_law.nd rfl (.inl rfl) (e_callL (ok__law_source T) (hr.mono (by decide)) hgd (by rfl) T.g__law_source T.F__law_source.kp T.b__law_source pass0 (a_cons (e_var 0 (pv 0)) (a_cons (e_var 1 (pv 1)) a_nil))))
    (ss_one (s_for PassesOwn.never rfl (i_range1 (by rfl) T.n_range e_int) (g_name (pg_name (i := 3) sc_law.nd rfl (.inl rfl))) (ss_cons (s_set (i := 4) sc_law.nd rfl (.inr rfl) (e_call (ok__law_value T) (hr.mono (by decide)) hgd (by rfl) T.g__law_value T.F__law_value.kp T.b__law_value pass0 (a_cons (e_var 2 (pv 2)) (a_cons (e_add e_int (e_call (ok__law_draw T) (hr.mono (by decide)) hgd (by rfl) T.g__law_draw T.F__law_draw.kp T.b__law_draw pass0 (a_cons (e_var 2 (pv 2)) (a_cons e_int a_nil)))) (a_cons e_int (a_cons e_int a_nil))))))
    (ss_cons (s_set (i := 5) sc_law.nd rfl (.inr rfl) (e_call (ok__law_value T) (hr.mono (by decide)) hgd (by rfl) T.g__law_value T.F__law_value.kp T.b__law_value pass0 (a_cons (e_var 2 (pv 2)) (a_cons (e_add e_int (e_call (ok__law_draw T) (hr.mono (by decide)) hgd (by rfl) T.g__law_draw T.F__law_draw.kp T.b__law_draw pass0 (a_cons (e_var 2 (pv 2)) (a_cons e_int a_nil)))) (a_cons e_int (a_cons e_int a_nil))))))
    (ss_cons (s_setL (i := 6) sc_law.nd rfl (.inl rfl) (e_lstL (a_cons (e_lam (st := st__law_caught) (k := 9) T.F__law_caught sc__law_caught rfl (.inl rfl) (by rfl) T.g__law_caught T.b__law_caught (fun L fA _ _ _ hr hgd act => d__law_caught T L fA hr hgd act) (fun _ _ _ h => h.2.2) (.head _) (lamne_law T) T.tab_law hB (hc.symm.trans T.code_law) (by rfl) (hr.mono (by decide)) hgd (LamX.lamS_by (by rfl)) rfl (fun _ _ _ _ _ => rfl) (fun _ _ _ _ _ _ _ hr hgd => (x_call (takes_of rfl rfl rfl rfl) (ok_sameO T) (hr.mono (by decide)) hgd (by rfl) T.g_same T.F_same.kp T.b_same (a_cons (e_var 4 (pv 4)) (a_cons (e_var 5 (pv 5)) a_nil))))) a_nil)))
    (ss_cons (s_app (name := "x") (pv 6) (e_lam (st := st__law_caught) (k := 9) T.F__law_caught sc__law_caught rfl (.inl rfl) (by rfl) T.g__law_caught T.b__law_caught (fun L fA _ _ _ hr hgd act => d__law_caught T L fA hr hgd act) (fun _ _ _ h => h.2.2) (.head _) (lamne_law T) T.tab_law hB (hc.symm.trans T.code_law) (by rfl) (hr.mono (by decide)) hgd (LamX.lamS_by (by rfl)) rfl (fun _ _ _ _ _ => rfl) (fun _ _ _ _ _ _ _ hr hgd => (x_call (takes_of rfl rfl rfl rfl) (ok_zonesO T) (hr.mono (by decide)) hgd (by rfl) T.g_zones T.F_zones.kp T.b_zones (a_cons (e_var 4 (pv 4)) (a_cons (e_var 5 (pv 5)) a_nil))))) (fun h => pe_bm PySem.F.plainAttrs_list PySem.F.slot_list_append PySem.F.type_list_append mt_append (pv 6) h))
    (ss_cons (s_app (name := "x") (pv 6) (e_lam (st := st__law_caught) (k := 9) T.F__law_caught sc__law_caught rfl (.inl rfl) (by rfl) T.g__law_caught T.b__law_caught (fun L fA _ _ _ hr hgd act => d__law_caught T L fA hr hgd act) (fun _ _ _ h => h.2.2) (.head _) (lamne_law T) T.tab_law hB (hc.symm.trans T.code_law) (by rfl) (hr.mono (by decide)) hgd (LamX.lamS_by (by rfl)) rfl (fun _ _ _ _ _ => rfl) (fun _ _ _ _ _ _ _ hr hgd => (x_call (takes_of rfl rfl rfl rfl) (ok_simplest_differenceO T) (hr.mono (by decide)) hgd (by rfl) T.g_simplest_difference T.F_simplest_difference.kp T.b_simplest_difference (a_cons (e_var 4 (pv 4)) (a_cons (e_var 5 (pv 5)) a_nil))))) (fun h => pe_bm PySem.F.plainAttrs_list PySem.F.slot_list_append PySem.F.type_list_append mt_append (pv 6) h))
    (ss_cons (s_for PassesOwn.never rfl (i_enumZ (by rfl) T.n_enumerate (by rfl) T.n_zip (e_var 6 (pv 6)) (e_tup (a_cons e_bl (a_cons e_bl (a_cons e_bl a_nil))))) (g_tup rfl (gs_cons (g_name (pg_name (i := 7) sc_law.nd rfl (.inl rfl))) (gs_cons (g_tup rfl (gs_cons (g_name (pg_name (i := 8) sc_law.nd rfl (.inl rfl))) (gs_cons (g_name (pg_name (i := 9) sc_law.nd rfl (.inl rfl))) gs_nil))) gs_nil))) (ss_cons (s_set (i := 10) sc_law.nd rfl (.inl rfl) (e_call (ok__law_due T) (hr.mono (by decide)) hgd (by rfl) T.g__law_due T.F__law_due.kp T.b__law_due pass0 (a_cons (e_var 4 (pv 4)) (a_cons (e_var 5 (pv 5)) (a_cons (e_var 9 (pv 9)) a_nil)))))
    (ss_one (s_if (t_if (t_isN (e_var 10 (pv 10))) (t_ne hr.units (e_ix (e_var 8 (pv 8)) e_int) e_str) (t_ne hr.units (e_reprX hr hgd (by rfl) T.n_repr (a_cons (e_var 8 (pv 8)) a_nil)) (e_reprX hr hgd (by rfl) T.n_repr (a_cons (e_var 10 (pv 10)) a_nil)))) (ss_one (s_ret e_bl)) ss_nil))))
    (ss_one (s_if (t_isN (e_call (ok__law_due T) (hr.mono (by decide)) hgd (by rfl) T.g__law_due T.F__law_due.kp T.b__law_due pass0 (a_cons (e_var 4 (pv 4)) (a_cons (e_var 5 (pv 5)) (a_cons e_bl a_nil))))) (ss_cons (s_set (i := 11) sc_law.nd rfl (.inl rfl) (e_fz (e_lstL (a_cons (e_call (ok_same T) (hr.mono (by decide)) hgd (by rfl) T.g_same T.F_same.kp T.b_same pass0 (a_cons (e_var 5 (pv 5)) (a_cons (e_var 4 (pv 4)) a_nil))) (a_cons (e_call (ok_zones T) (hr.mono (by decide)) hgd (by rfl) T.g_zones T.F_zones.kp T.b_zones pass0 (a_cons (e_var 5 (pv 5)) (a_cons (e_var 4 (pv 4)) a_nil))) (a_cons (e_call (ok_simplest_difference T) (hr.mono (by decide)) hgd (by rfl) T.g_simplest_difference T.F_simplest_difference.kp T.b_simplest_difference pass0 (a_cons (e_var 5 (pv 5)) (a_cons (e_var 4 (pv 4)) a_nil))) a_nil))))))
    (ss_one (s_if (t_ne hr.units (e_reprX hr hgd (by rfl) T.n_repr (a_cons (e_var 11 (pv 11)) a_nil)) (e_reprX hr hgd (by rfl) T.n_repr (a_cons (e_fz (e_lc (own := [("_law_told", 8)]) rfl sc_law.nd (i_items (e_var 6 (pv 6))) (blkOk_by (own := [("_law_told", 8)]) (N := N_law) (sc := defScope st_law) (by decide +kernel)) (fun _ _ _ _ _ => (gw_name rfl (pg_name (i := 8) sc_law.nd rfl (.inl rfl)) (by decide))) (fun _ _ _ _ _ => ts_yes) (fun _ _ _ _ _ => (e_ix (e_var 8 (pv 8)) e_int)))) a_nil))) (ss_one (s_ret e_bl)) ss_nil))) (ss_one (s_if (PW.pt (w_and (t_isN (e_call (ok__law_due T) (hr.mono (by decide)) hgd (by rfl) T.g__law_due T.F__law_due.kp T.b__law_due pass0 (a_cons (e_var 4 (pv 4)) (a_cons (e_var 5 (pv 5)) (a_cons e_bl a_nil))))) (w_and1 (t_ne hr.units (e_ix (e_var 6 (pv 6)) e_int) (e_tup (a_cons e_str (a_cons e_bl a_nil))))))) (ss_one (s_ret e_bl)) ss_nil))))))))))))))
    (ss_one (s_ret e_bl)))
theorem ok_law (T : Tx w K mg) (hB : TbB K mg base) : Fn P w K mg base CX0 12 T.f_law T.fd_law ["_law_script"] (lift K 1 fs_law) := fn_dataM T.F_law sc_law b_law (fun _ _ _ _ _ _ hc hr hgd => d_law T hB hc hr hgd) p_law
end
def mkTx {w : World} {K : Fg} {h : Heap} {mg : Str → Option Value} (X : K.In h) (G : h.Ns mainGlobals mg) {cT0 pT0 : Addr} {C_RoundingError : Addr} {C_DifferentWidths : Addr} {nm_DifferentWidths q_DifferentWidths : Str} {N_DifferentWidths : Addr} {bs_DifferentWidths bm_DifferentWidths : List Value} {sn_DifferentWidths : List Str} {sub_DifferentWidths : List Value} {ab_DifferentWidths : Bool} {col_DifferentWidths : Option Bool} {dd_DifferentWidths : Option Addr} {k0_DifferentWidths k1_DifferentWidths k2_DifferentWidths k3_DifferentWidths k5_DifferentWidths : Option Value} {C_InvalidChain : Addr} {nm_InvalidChain q_InvalidChain : Str} {N_InvalidChain : Addr} {bs_InvalidChain bm_InvalidChain : List Value} {sn_InvalidChain : List Str} {sub_InvalidChain : List Value} {ab_InvalidChain : Bool} {col_InvalidChain : Option Bool} {dd_InvalidChain : Option Addr} {k0_InvalidChain k1_InvalidChain k2_InvalidChain k3_InvalidChain k5_InvalidChain : Option Value} {f0 : Addr} {od0 an0 : Option Addr} {sl0 : Array (Option Value)} {oc0 kV0 dc0 pm0 cd0 ct0 : Value} {f1 : Addr} {od1 an1 : Option Addr} {sl1 : Array (Option Value)} {oc1 kV1 dc1 pm1 cd1 ct1 : Value} {f2 : Addr} {od2 an2 : Option Addr} {sl2 : Array (Option Value)} {oc2 kV2 dc2 pm2 cd2 ct2 : Value} {f3 : Addr} {od3 an3 : Option Addr} {sl3 : Array (Option Value)} {oc3 kV3 dc3 pm3 cd3 ct3 : Value} {f4 : Addr} {od4 an4 : Option Addr} {sl4 : Array (Option Value)} {oc4 kV4 dc4 pm4 cd4 ct4 : Value} {f5 : Addr} {od5 an5 : Option Addr} {sl5 : Array (Option Value)} {oc5 kV5 dc5 pm5 cd5 ct5 : Value} {f6 : Addr} {od6 an6 : Option Addr} {sl6 : Array (Option Value)} {oc6 kV6 dc6 pm6 cd6 ct6 : Value} {f7 : Addr} {od7 an7 : Option Addr} {sl7 : Array (Option Value)} {oc7 kV7 dc7 pm7 cd7 ct7 : Value} {f8 : Addr} {od8 an8 : Option Addr} {sl8 : Array (Option Value)} {oc8 kV8 dc8 pm8 cd8 ct8 : Value} {f9 : Addr} {od9 an9 : Option Addr} {sl9 : Array (Option Value)} {oc9 kV9 dc9 pm9 cd9 ct9 : Value} {f10 : Addr} {od10 an10 : Option Addr} {sl10 : Array (Option Value)} {oc10 kV10 dc10 pm10 cd10 ct10 : Value} {f11 : Addr} {od11 an11 : Option Addr} {sl11 : Array (Option Value)} {oc11 kV11 dc11 pm11 cd11 ct11 : Value} {f12 : Addr} {od12 an12 : Option Addr} {sl12 : Array (Option Value)} {oc12 kV12 dc12 pm12 cd12 ct12 : Value} {f13 : Addr} {od13 an13 : Option Addr} {sl13 : Array (Option Value)} {oc13 kV13 dc13 pm13 cd13 ct13 : Value} {f14 : Addr} {od14 an14 : Option Addr} {sl14 : Array (Option Value)} {oc14 kV14 dc14 pm14 cd14 ct14 : Value} {f15 : Addr} {od15 an15 : Option Addr} {sl15 : Array (Option Value)} {oc15 kV15 dc15 pm15 cd15 ct15 : Value} {f16 : Addr} {od16 an16 : Option Addr} {sl16 : Array (Option Value)} {oc16 kV16 dc16 pm16 cd16 ct16 : Value} {f17 : Addr} {od17 an17 : Option Addr} {sl17 : Array (Option Value)} {oc17 kV17 dc17 pm17 cd17 ct17 : Value} {f18 : Addr} {od18 an18 : Option Addr} {sl18 : Array (Option Value)} {oc18 kV18 dc18 pm18 cd18 ct18 : Value} {f19 : Addr} {od19 an19 : Option Addr} {sl19 : Array (Option Value)} {oc19 kV19 dc19 pm19 cd19 ct19 : Value} {f20 : Addr} {od20 an20 : Option Addr} {sl20 : Array (Option Value)} {oc20 kV20 dc20 pm20 cd20 ct20 : Value} {f21 : Addr} {od21 an21 : Option Addr} {sl21 : Array (Option Value)} {oc21 kV21 dc21 pm21 cd21 ct21 : Value} {f22 : Addr} {od22 an22 : Option Addr} {sl22 : Array (Option Value)} {oc22 kV22 dc22 pm22 cd22 ct22 : Value} {f23 : Addr} {od23 an23 : Option Addr} {sl23 : Array (Option Value)} {oc23 kV23 dc23 pm23 cd23 ct23 : Value} {f24 : Addr} {od24 an24 : Option Addr} {sl24 : Array (Option Value)} {oc24 kV24 dc24 pm24 cd24 ct24 : Value} {f25 : Addr} {od25 an25 : Option Addr} {sl25 : Array (Option Value)} {oc25 kV25 dc25 pm25 cd25 ct25 : Value} {f26 : Addr} {od26 an26 : Option Addr} {sl26 : Array (Option Value)} {oc26 kV26 dc26 pm26 cd26 ct26 : Value} {f27 : Addr} {od27 an27 : Option Addr} {sl27 : Array (Option Value)} {oc27 kV27 dc27 pm27 cd27 ct27 : Value} {f28 : Addr} {od28 an28 : Option Addr} {sl28 : Array (Option Value)} {oc28 kV28 dc28 pm28 cd28 ct28 : Value} {f29 : Addr} {od29 an29 : Option Addr} {sl29 : Array (Option Value)} {oc29 kV29 dc29 pm29 cd29 ct29 : Value} {f30 : Addr} {od30 an30 : Option Addr} {sl30 : Array (Option Value)} {oc30 kV30 dc30 pm30 cd30 ct30 : Value} {f31 : Addr} {od31 an31 : Option Addr} {sl31 : Array (Option Value)} {oc31 kV31 dc31 pm31 cd31 ct31 : Value} {f32 : Addr} {od32 an32 : Option Addr} {sl32 : Array (Option Value)} {oc32 kV32 dc32 pm32 cd32 ct32 : Value} {f33 : Addr} {od33 an33 : Option Addr} {sl33 : Array (Option Value)} {oc33 kV33 dc33 pm33 cd33 ct33 : Value} {f34 : Addr} {od34 an34 : Option Addr} {sl34 : Array (Option Value)} {oc34 kV34 dc34 pm34 cd34 ct34 : Value} {ra_BY_RULE : Addr} {es_BY_RULE : Array DictEntry} {en_BY_RULE : Nat} {tk_BY_RULE_down_0_0_0 : Tok} {tk_BY_RULE_down_0_0_1 : Tok} {ra_BY_RULE_down_0_0 : Addr} {rd_BY_RULE_down_0_0 : Option Addr} {rn_BY_RULE_down_0_0 : Nat} {rs_BY_RULE_down_0_0 : Array (Option Value)} {tk_BY_RULE_down_0_1 : Tok} {ra_BY_RULE_down_0 : Addr} {rd_BY_RULE_down_0 : Option Addr} {rn_BY_RULE_down_0 : Nat} {rs_BY_RULE_down_0 : Array (Option Value)} {tk_BY_RULE_down_1_0_0 : Tok} {tk_BY_RULE_down_1_0_1 : Tok} {ra_BY_RULE_down_1_0 : Addr} {rd_BY_RULE_down_1_0 : Option Addr} {rn_BY_RULE_down_1_0 : Nat} {rs_BY_RULE_down_1_0 : Array (Option Value)} {tk_BY_RULE_down_1_1 : Tok} {ra_BY_RULE_down_1 : Addr} {rd_BY_RULE_down_1 : Option Addr} {rn_BY_RULE_down_1 : Nat} {rs_BY_RULE_down_1 : Array (Option Value)} {ra_BY_RULE_down : Addr} {rd_BY_RULE_down : Option Addr} {rn_BY_RULE_down : Nat} {rs_BY_RULE_down : Array (Option Value)} {tk_BY_RULE_half_down_0_0_0 : Tok} {tk_BY_RULE_half_down_0_0_1 : Tok} {ra_BY_RULE_half_down_0_0 : Addr} {rd_BY_RULE_half_down_0_0 : Option Addr} {rn_BY_RULE_half_down_0_0 : Nat} {rs_BY_RULE_half_down_0_0 : Array (Option Value)} {tk_BY_RULE_half_down_0_1 : Tok} {ra_BY_RULE_half_down_0 : Addr} {rd_BY_RULE_half_down_0 : Option Addr} {rn_BY_RULE_half_down_0 : Nat} {rs_BY_RULE_half_down_0 : Array (Option Value)} {tk_BY_RULE_half_down_1_0_0 : Tok} {tk_BY_RULE_half_down_1_0_1 : Tok} {ra_BY_RULE_half_down_1_0 : Addr} {rd_BY_RULE_half_down_1_0 : Option Addr} {rn_BY_RULE_half_down_1_0 : Nat} {rs_BY_RULE_half_down_1_0 : Array (Option Value)} {tk_BY_RULE_half_down_1_1 : Tok} {ra_BY_RULE_half_down_1 : Addr} {rd_BY_RULE_half_down_1 : Option Addr} {rn_BY_RULE_half_down_1 : Nat} {rs_BY_RULE_half_down_1 : Array (Option Value)} {ra_BY_RULE_half_down : Addr} {rd_BY_RULE_half_down : Option Addr} {rn_BY_RULE_half_down : Nat} {rs_BY_RULE_half_down : Array (Option Value)} {tk_BY_RULE_half_even_0_0_0 : Tok} {tk_BY_RULE_half_even_0_0_1 : Tok} {ra_BY_RULE_half_even_0_0 : Addr} {rd_BY_RULE_half_even_0_0 : Option Addr} {rn_BY_RULE_half_even_0_0 : Nat} {rs_BY_RULE_half_even_0_0 : Array (Option Value)} {tk_BY_RULE_half_even_0_1 : Tok} {ra_BY_RULE_half_even_0 : Addr} {rd_BY_RULE_half_even_0 : Option Addr} {rn_BY_RULE_half_even_0 : Nat} {rs_BY_RULE_half_even_0 : Array (Option Value)} {tk_BY_RULE_half_even_1_0_0 : Tok} {tk_BY_RULE_half_even_1_0_1 : Tok} {ra_BY_RULE_half_even_1_0 : Addr} {rd_BY_RULE_half_even_1_0 : Option Addr} {rn_BY_RULE_half_even_1_0 : Nat} {rs_BY_RULE_half_even_1_0 : Array (Option Value)} {tk_BY_RULE_half_even_1_1 : Tok} {ra_BY_RULE_half_even_1 : Addr} {rd_BY_RULE_half_even_1 : Option Addr} {rn_BY_RULE_half_even_1 : Nat} {rs_BY_RULE_half_even_1 : Array (Option Value)} {ra_BY_RULE_half_even : Addr} {rd_BY_RULE_half_even : Option Addr} {rn_BY_RULE_half_even : Nat} {rs_BY_RULE_half_even : Array (Option Value)} {tk_BY_RULE_half_up_0_0_0 : Tok} {tk_BY_RULE_half_up_0_0_1 : Tok} {ra_BY_RULE_half_up_0_0 : Addr} {rd_BY_RULE_half_up_0_0 : Option Addr} {rn_BY_RULE_half_up_0_0 : Nat} {rs_BY_RULE_half_up_0_0 : Array (Option Value)} {tk_BY_RULE_half_up_0_1 : Tok} {ra_BY_RULE_half_up_0 : Addr} {rd_BY_RULE_half_up_0 : Option Addr} {rn_BY_RULE_half_up_0 : Nat} {rs_BY_RULE_half_up_0 : Array (Option Value)} {tk_BY_RULE_half_up_1_0_0 : Tok} {tk_BY_RULE_half_up_1_0_1 : Tok} {ra_BY_RULE_half_up_1_0 : Addr} {rd_BY_RULE_half_up_1_0 : Option Addr} {rn_BY_RULE_half_up_1_0 : Nat} {rs_BY_RULE_half_up_1_0 : Array (Option Value)} {tk_BY_RULE_half_up_1_1 : Tok} {ra_BY_RULE_half_up_1 : Addr} {rd_BY_RULE_half_up_1 : Option Addr} {rn_BY_RULE_half_up_1 : Nat} {rs_BY_RULE_half_up_1 : Array (Option Value)} {ra_BY_RULE_half_up : Addr} {rd_BY_RULE_half_up : Option Addr} {rn_BY_RULE_half_up : Nat} {rs_BY_RULE_half_up : Array (Option Value)} {tk_BY_RULE_odd_0_0_0 : Tok} {tk_BY_RULE_odd_0_0_1 : Tok} {ra_BY_RULE_odd_0_0 : Addr} {rd_BY_RULE_odd_0_0 : Option Addr} {rn_BY_RULE_odd_0_0 : Nat} {rs_BY_RULE_odd_0_0 : Array (Option Value)} {tk_BY_RULE_odd_0_1 : Tok} {ra_BY_RULE_odd_0 : Addr} {rd_BY_RULE_odd_0 : Option Addr} {rn_BY_RULE_odd_0 : Nat} {rs_BY_RULE_odd_0 : Array (Option Value)} {tk_BY_RULE_odd_1_0_0 : Tok} {tk_BY_RULE_odd_1_0_1 : Tok} {ra_BY_RULE_odd_1_0 : Addr} {rd_BY_RULE_odd_1_0 : Option Addr} {rn_BY_RULE_odd_1_0 : Nat} {rs_BY_RULE_odd_1_0 : Array (Option Value)} {tk_BY_RULE_odd_1_1 : Tok} {ra_BY_RULE_odd_1 : Addr} {rd_BY_RULE_odd_1 : Option Addr} {rn_BY_RULE_odd_1 : Nat} {rs_BY_RULE_odd_1 : Array (Option Value)} {ra_BY_RULE_odd : Addr} {rd_BY_RULE_odd : Option Addr} {rn_BY_RULE_odd : Nat} {rs_BY_RULE_odd : Array (Option Value)} {tk_BY_RULE_up_0_0_0 : Tok} {tk_BY_RULE_up_0_0_1 : Tok} {ra_BY_RULE_up_0_0 : Addr} {rd_BY_RULE_up_0_0 : Option Addr} {rn_BY_RULE_up_0_0 : Nat} {rs_BY_RULE_up_0_0 : Array (Option Value)} {tk_BY_RULE_up_0_1 : Tok} {ra_BY_RULE_up_0 : Addr} {rd_BY_RULE_up_0 : Option Addr} {rn_BY_RULE_up_0 : Nat} {rs_BY_RULE_up_0 : Array (Option Value)} {tk_BY_RULE_up_1_0_0 : Tok} {tk_BY_RULE_up_1_0_1 : Tok} {ra_BY_RULE_up_1_0 : Addr} {rd_BY_RULE_up_1_0 : Option Addr} {rn_BY_RULE_up_1_0 : Nat} {rs_BY_RULE_up_1_0 : Array (Option Value)} {tk_BY_RULE_up_1_1 : Tok} {ra_BY_RULE_up_1 : Addr} {rd_BY_RULE_up_1 : Option Addr} {rn_BY_RULE_up_1 : Nat} {rs_BY_RULE_up_1 : Array (Option Value)} {ra_BY_RULE_up : Addr} {rd_BY_RULE_up : Option Addr} {rn_BY_RULE_up : Nat} {rs_BY_RULE_up : Array (Option Value)} {tk_DOWN : Tok} {tk_MOST_STEPS : Tok} {tk_MOST_WIDTH : Tok} {tk_PAIR : Tok} {tk_RULES_0 : Tok} {tk_RULES_1 : Tok} {tk_RULES_2 : Tok} {tk_RULES_3 : Tok} {tk_RULES_4 : Tok} {tk_RULES_5 : Tok} {ra_RULES : Addr} {rd_RULES : Option Addr} {rn_RULES : Nat} {rs_RULES : Array (Option Value)} {tk_UP : Tok}
    (a0 : PySem.W.findIn K (.ref C_DifferentWidths) "__init__" = some (some (.ref f0))) (i0 : PySem.W.isFn K (.ref f0) = true)
    (l0 : K.lookup f0 = some ⟨oc0, od0, .func (PySem.W.fnOf "__init__" "DifferentWidths.__init__" (defArgs st_DifferentWidths_init) (defBody st_DifferentWidths_init) (defScope st_DifferentWidths_init) .none kV0 dc0 pm0 an0 cd0 ct0), sl0⟩) (c0 : PySem.W.codeIn K cd0 "DifferentWidths.__init__" = true) (k0 : PySem.W.keepIn K (.ref f0) = true)
    (a1 : PySem.W.findIn K (.ref C_InvalidChain) "__init__" = some (some (.ref f1))) (i1 : PySem.W.isFn K (.ref f1) = true)
    (l1 : K.lookup f1 = some ⟨oc1, od1, .func (PySem.W.fnOf "__init__" "InvalidChain.__init__" (defArgs st_InvalidChain_init) (defBody st_InvalidChain_init) (defScope st_InvalidChain_init) .none kV1 dc1 pm1 an1 cd1 ct1), sl1⟩) (c1 : PySem.W.codeIn K cd1 "InvalidChain.__init__" = true) (k1 : PySem.W.keepIn K (.ref f1) = true)
    (a2 : PySem.W.nsIn K mainGlobals "is_int" = some (some (.ref f2)))
    (l2 : K.lookup f2 = some ⟨oc2, od2, .func (PySem.W.fnOf "is_int" "is_int" (defArgs st_is_int) (defBody st_is_int) (defScope st_is_int) .none kV2 dc2 pm2 an2 cd2 ct2), sl2⟩) (c2 : PySem.W.codeIn K cd2 "is_int" = true) (k2 : PySem.W.keepIn K (.ref f2) = true)
    (a3 : PySem.W.nsIn K mainGlobals "common_divisor" = some (some (.ref f3)))
    (l3 : K.lookup f3 = some ⟨oc3, od3, .func (PySem.W.fnOf "common_divisor" "common_divisor" (defArgs st_common_divisor) (defBody st_common_divisor) (defScope st_common_divisor) .none kV3 dc3 pm3 an3 cd3 ct3), sl3⟩) (c3 : PySem.W.codeIn K cd3 "common_divisor" = true) (k3 : PySem.W.keepIn K (.ref f3) = true)
    (a4 : PySem.W.nsIn K mainGlobals "lowest" = some (some (.ref f4)))
    (l4 : K.lookup f4 = some ⟨oc4, od4, .func (PySem.W.fnOf "lowest" "lowest" (defArgs st_lowest) (defBody st_lowest) (defScope st_lowest) .none kV4 dc4 pm4 an4 cd4 ct4), sl4⟩) (c4 : PySem.W.codeIn K cd4 "lowest" = true) (k4 : PySem.W.keepIn K (.ref f4) = true)
    (a5 : PySem.W.nsIn K mainGlobals "is_width" = some (some (.ref f5)))
    (l5 : K.lookup f5 = some ⟨oc5, od5, .func (PySem.W.fnOf "is_width" "is_width" (defArgs st_is_width) (defBody st_is_width) (defScope st_is_width) .none kV5 dc5 pm5 an5 cd5 ct5), sl5⟩) (c5 : PySem.W.codeIn K cd5 "is_width" = true) (k5 : PySem.W.keepIn K (.ref f5) = true)
    (a6 : PySem.W.nsIn K mainGlobals "is_rule" = some (some (.ref f6)))
    (l6 : K.lookup f6 = some ⟨oc6, od6, .func (PySem.W.fnOf "is_rule" "is_rule" (defArgs st_is_rule) (defBody st_is_rule) (defScope st_is_rule) .none kV6 dc6 pm6 an6 cd6 ct6), sl6⟩) (c6 : PySem.W.codeIn K cd6 "is_rule" = true) (k6 : PySem.W.keepIn K (.ref f6) = true)
    (a7 : PySem.W.nsIn K mainGlobals "is_step" = some (some (.ref f7)))
    (l7 : K.lookup f7 = some ⟨oc7, od7, .func (PySem.W.fnOf "is_step" "is_step" (defArgs st_is_step) (defBody st_is_step) (defScope st_is_step) .none kV7 dc7 pm7 an7 cd7 ct7), sl7⟩) (c7 : PySem.W.codeIn K cd7 "is_step" = true) (k7 : PySem.W.keepIn K (.ref f7) = true)
    (a8 : PySem.W.nsIn K mainGlobals "is_chain" = some (some (.ref f8)))
    (l8 : K.lookup f8 = some ⟨oc8, od8, .func (PySem.W.fnOf "is_chain" "is_chain" (defArgs st_is_chain) (defBody st_is_chain) (defScope st_is_chain) .none kV8 dc8 pm8 an8 cd8 ct8), sl8⟩) (c8 : PySem.W.codeIn K cd8 "is_chain" = true) (k8 : PySem.W.keepIn K (.ref f8) = true)
    (a9 : PySem.W.nsIn K mainGlobals "check_chain" = some (some (.ref f9)))
    (l9 : K.lookup f9 = some ⟨oc9, od9, .func (PySem.W.fnOf "check_chain" "check_chain" (defArgs st_check_chain) (defBody st_check_chain) (defScope st_check_chain) .none kV9 dc9 pm9 an9 cd9 ct9), sl9⟩) (c9 : PySem.W.codeIn K cd9 "check_chain" = true) (k9 : PySem.W.keepIn K (.ref f9) = true)
    (a10 : PySem.W.nsIn K mainGlobals "last_width" = some (some (.ref f10)))
    (l10 : K.lookup f10 = some ⟨oc10, od10, .func (PySem.W.fnOf "last_width" "last_width" (defArgs st_last_width) (defBody st_last_width) (defScope st_last_width) .none kV10 dc10 pm10 an10 cd10 ct10), sl10⟩) (c10 : PySem.W.codeIn K cd10 "last_width" = true) (k10 : PySem.W.keepIn K (.ref f10) = true)
    (a11 : PySem.W.nsIn K mainGlobals "trimmed" = some (some (.ref f11)))
    (l11 : K.lookup f11 = some ⟨oc11, od11, .func (PySem.W.fnOf "trimmed" "trimmed" (defArgs st_trimmed) (defBody st_trimmed) (defScope st_trimmed) .none kV11 dc11 pm11 an11 cd11 ct11), sl11⟩) (c11 : PySem.W.codeIn K cd11 "trimmed" = true) (k11 : PySem.W.keepIn K (.ref f11) = true)
    (a12 : PySem.W.nsIn K mainGlobals "last_down" = some (some (.ref f12)))
    (l12 : K.lookup f12 = some ⟨oc12, od12, .func (PySem.W.fnOf "last_down" "last_down" (defArgs st_last_down) (defBody st_last_down) (defScope st_last_down) .none kV12 dc12 pm12 an12 cd12 ct12), sl12⟩) (c12 : PySem.W.codeIn K cd12 "last_down" = true) (k12 : PySem.W.keepIn K (.ref f12) = true)
    (a13 : PySem.W.nsIn K mainGlobals "combined" = some (some (.ref f13)))
    (l13 : K.lookup f13 = some ⟨oc13, od13, .func (PySem.W.fnOf "combined" "combined" (defArgs st_combined) (defBody st_combined) (defScope st_combined) .none kV13 dc13 pm13 an13 cd13 ct13), sl13⟩) (c13 : PySem.W.codeIn K cd13 "combined" = true) (k13 : PySem.W.keepIn K (.ref f13) = true)
    (a14 : PySem.W.nsIn K mainGlobals "thresholds" = some (some (.ref f14)))
    (l14 : K.lookup f14 = some ⟨oc14, od14, .func (PySem.W.fnOf "thresholds" "thresholds" (defArgs st_thresholds) (defBody st_thresholds) (defScope st_thresholds) .none kV14 dc14 pm14 an14 cd14 ct14), sl14⟩) (c14 : PySem.W.codeIn K cd14 "thresholds" = true) (k14 : PySem.W.keepIn K (.ref f14) = true)
    (a15 : PySem.W.nsIn K mainGlobals "check_chains" = some (some (.ref f15)))
    (l15 : K.lookup f15 = some ⟨oc15, od15, .func (PySem.W.fnOf "check_chains" "check_chains" (defArgs st_check_chains) (defBody st_check_chains) (defScope st_check_chains) .none kV15 dc15 pm15 an15 cd15 ct15), sl15⟩) (c15 : PySem.W.codeIn K cd15 "check_chains" = true) (k15 : PySem.W.keepIn K (.ref f15) = true)
    (a16 : PySem.W.nsIn K mainGlobals "same" = some (some (.ref f16)))
    (l16 : K.lookup f16 = some ⟨oc16, od16, .func (PySem.W.fnOf "same" "same" (defArgs st_same) (defBody st_same) (defScope st_same) .none kV16 dc16 pm16 an16 cd16 ct16), sl16⟩) (c16 : PySem.W.codeIn K cd16 "same" = true) (k16 : PySem.W.keepIn K (.ref f16) = true)
    (a17 : PySem.W.nsIn K mainGlobals "is_before" = some (some (.ref f17)))
    (l17 : K.lookup f17 = some ⟨oc17, od17, .func (PySem.W.fnOf "is_before" "is_before" (defArgs st_is_before) (defBody st_is_before) (defScope st_is_before) .none kV17 dc17 pm17 an17 cd17 ct17), sl17⟩) (c17 : PySem.W.codeIn K cd17 "is_before" = true) (k17 : PySem.W.keepIn K (.ref f17) = true)
    (a18 : PySem.W.nsIn K mainGlobals "zone" = some (some (.ref f18)))
    (l18 : K.lookup f18 = some ⟨oc18, od18, .func (PySem.W.fnOf "zone" "zone" (defArgs st_zone) (defBody st_zone) (defScope st_zone) .none kV18 dc18 pm18 an18 cd18 ct18), sl18⟩) (c18 : PySem.W.codeIn K cd18 "zone" = true) (k18 : PySem.W.keepIn K (.ref f18) = true)
    (a19 : PySem.W.nsIn K mainGlobals "zones" = some (some (.ref f19)))
    (l19 : K.lookup f19 = some ⟨oc19, od19, .func (PySem.W.fnOf "zones" "zones" (defArgs st_zones) (defBody st_zones) (defScope st_zones) .none kV19 dc19 pm19 an19 cd19 ct19), sl19⟩) (c19 : PySem.W.codeIn K cd19 "zones" = true) (k19 : PySem.W.keepIn K (.ref f19) = true)
    (a20 : PySem.W.nsIn K mainGlobals "first_part" = some (some (.ref f20)))
    (l20 : K.lookup f20 = some ⟨oc20, od20, .func (PySem.W.fnOf "first_part" "first_part" (defArgs st_first_part) (defBody st_first_part) (defScope st_first_part) .none kV20 dc20 pm20 an20 cd20 ct20), sl20⟩) (c20 : PySem.W.codeIn K cd20 "first_part" = true) (k20 : PySem.W.keepIn K (.ref f20) = true)
    (a21 : PySem.W.nsIn K mainGlobals "simplest_difference" = some (some (.ref f21)))
    (l21 : K.lookup f21 = some ⟨oc21, od21, .func (PySem.W.fnOf "simplest_difference" "simplest_difference" (defArgs st_simplest_difference) (defBody st_simplest_difference) (defScope st_simplest_difference) .none kV21 dc21 pm21 an21 cd21 ct21), sl21⟩) (c21 : PySem.W.codeIn K cd21 "simplest_difference" = true) (k21 : PySem.W.keepIn K (.ref f21) = true)
    (a22 : PySem.W.nsIn K mainGlobals "_law_source" = some (some (.ref f22)))
    (l22 : K.lookup f22 = some ⟨oc22, od22, .func (PySem.W.fnOf "_law_source" "_law_source" (defArgs st__law_source) (defBody st__law_source) (defScope st__law_source) .none kV22 dc22 pm22 an22 cd22 ct22), sl22⟩) (c22 : PySem.W.codeIn K cd22 "_law_source" = true) (k22 : PySem.W.keepIn K (.ref f22) = true)
    (a23 : PySem.W.nsIn K mainGlobals "_law_draw" = some (some (.ref f23)))
    (l23 : K.lookup f23 = some ⟨oc23, od23, .func (PySem.W.fnOf "_law_draw" "_law_draw" (defArgs st__law_draw) (defBody st__law_draw) (defScope st__law_draw) .none kV23 dc23 pm23 an23 cd23 ct23), sl23⟩) (c23 : PySem.W.codeIn K cd23 "_law_draw" = true) (k23 : PySem.W.keepIn K (.ref f23) = true)
    (a24 : PySem.W.nsIn K mainGlobals "_law_pick" = some (some (.ref f24)))
    (l24 : K.lookup f24 = some ⟨oc24, od24, .func (PySem.W.fnOf "_law_pick" "_law_pick" (defArgs st__law_pick) (defBody st__law_pick) (defScope st__law_pick) .none kV24 dc24 pm24 an24 cd24 ct24), sl24⟩) (c24 : PySem.W.codeIn K cd24 "_law_pick" = true) (k24 : PySem.W.keepIn K (.ref f24) = true)
    (a25 : PySem.W.nsIn K mainGlobals "_law_rule" = some (some (.ref f25)))
    (l25 : K.lookup f25 = some ⟨oc25, od25, .func (PySem.W.fnOf "_law_rule" "_law_rule" (defArgs st__law_rule) (defBody st__law_rule) (defScope st__law_rule) .none kV25 dc25 pm25 an25 cd25 ct25), sl25⟩) (c25 : PySem.W.codeIn K cd25 "_law_rule" = true) (k25 : PySem.W.keepIn K (.ref f25) = true)
    (a26 : PySem.W.nsIn K mainGlobals "_law_chain" = some (some (.ref f26)))
    (l26 : K.lookup f26 = some ⟨oc26, od26, .func (PySem.W.fnOf "_law_chain" "_law_chain" (defArgs st__law_chain) (defBody st__law_chain) (defScope st__law_chain) .none kV26 dc26 pm26 an26 cd26 ct26), sl26⟩) (c26 : PySem.W.codeIn K cd26 "_law_chain" = true) (k26 : PySem.W.keepIn K (.ref f26) = true)
    (a27 : PySem.W.nsIn K mainGlobals "_law_is_count" = some (some (.ref f27)))
    (l27 : K.lookup f27 = some ⟨oc27, od27, .func (PySem.W.fnOf "_law_is_count" "_law_is_count" (defArgs st__law_is_count) (defBody st__law_is_count) (defScope st__law_is_count) .none kV27 dc27 pm27 an27 cd27 ct27), sl27⟩) (c27 : PySem.W.codeIn K cd27 "_law_is_count" = true) (k27 : PySem.W.keepIn K (.ref f27) = true)
    (a28 : PySem.W.nsIn K mainGlobals "_law_is_chain" = some (some (.ref f28)))
    (l28 : K.lookup f28 = some ⟨oc28, od28, .func (PySem.W.fnOf "_law_is_chain" "_law_is_chain" (defArgs st__law_is_chain) (defBody st__law_is_chain) (defScope st__law_is_chain) .none kV28 dc28 pm28 an28 cd28 ct28), sl28⟩) (c28 : PySem.W.codeIn K cd28 "_law_is_chain" = true) (k28 : PySem.W.keepIn K (.ref f28) = true)
    (a29 : PySem.W.nsIn K mainGlobals "_law_least" = some (some (.ref f29)))
    (l29 : K.lookup f29 = some ⟨oc29, od29, .func (PySem.W.fnOf "_law_least" "_law_least" (defArgs st__law_least) (defBody st__law_least) (defScope st__law_least) .none kV29 dc29 pm29 an29 cd29 ct29), sl29⟩) (c29 : PySem.W.codeIn K cd29 "_law_least" = true) (k29 : PySem.W.keepIn K (.ref f29) = true)
    (a30 : PySem.W.nsIn K mainGlobals "_law_odd_value" = some (some (.ref f30)))
    (l30 : K.lookup f30 = some ⟨oc30, od30, .func (PySem.W.fnOf "_law_odd_value" "_law_odd_value" (defArgs st__law_odd_value) (defBody st__law_odd_value) (defScope st__law_odd_value) .none kV30 dc30 pm30 an30 cd30 ct30), sl30⟩) (c30 : PySem.W.codeIn K cd30 "_law_odd_value" = true) (k30 : PySem.W.keepIn K (.ref f30) = true)
    (a31 : PySem.W.nsIn K mainGlobals "_law_value" = some (some (.ref f31)))
    (l31 : K.lookup f31 = some ⟨oc31, od31, .func (PySem.W.fnOf "_law_value" "_law_value" (defArgs st__law_value) (defBody st__law_value) (defScope st__law_value) .none kV31 dc31 pm31 an31 cd31 ct31), sl31⟩) (c31 : PySem.W.codeIn K cd31 "_law_value" = true) (k31 : PySem.W.keepIn K (.ref f31) = true)
    (a32 : PySem.W.nsIn K mainGlobals "_law_caught" = some (some (.ref f32)))
    (l32 : K.lookup f32 = some ⟨oc32, od32, .func (PySem.W.fnOf "_law_caught" "_law_caught" (defArgs st__law_caught) (defBody st__law_caught) (defScope st__law_caught) .none kV32 dc32 pm32 an32 cd32 ct32), sl32⟩) (c32 : PySem.W.codeIn K cd32 "_law_caught" = true) (k32 : PySem.W.keepIn K (.ref f32) = true)
    (a33 : PySem.W.nsIn K mainGlobals "_law_due" = some (some (.ref f33)))
    (l33 : K.lookup f33 = some ⟨oc33, od33, .func (PySem.W.fnOf "_law_due" "_law_due" (defArgs st__law_due) (defBody st__law_due) (defScope st__law_due) .none kV33 dc33 pm33 an33 cd33 ct33), sl33⟩) (c33 : PySem.W.codeIn K cd33 "_law_due" = true) (k33 : PySem.W.keepIn K (.ref f33) = true)
    (a34 : PySem.W.nsIn K mainGlobals "law" = some (some (.ref f34)))
    (l34 : K.lookup f34 = some ⟨oc34, od34, .func (PySem.W.fnOf "law" "law" (defArgs st_law) (defBody st_law) (defScope st_law) .none kV34 dc34 pm34 an34 cd34 ct34), sl34⟩) (c34 : PySem.W.codeIn K cd34 "law" = true) (k34 : PySem.W.keepIn K (.ref f34) = true)
    (z_abs : PySem.W.nsIn K mainGlobals "abs" = some none)
    (z_all : PySem.W.nsIn K mainGlobals "all" = some none)
    (z_bool : PySem.W.nsIn K mainGlobals "bool" = some none)
    (z_enumerate : PySem.W.nsIn K mainGlobals "enumerate" = some none)
    (z_int : PySem.W.nsIn K mainGlobals "int" = some none)
    (z_isinstance : PySem.W.nsIn K mainGlobals "isinstance" = some none)
    (z_len : PySem.W.nsIn K mainGlobals "len" = some none)
    (z_list : PySem.W.nsIn K mainGlobals "list" = some none)
    (z_min : PySem.W.nsIn K mainGlobals "min" = some none)
    (z_range : PySem.W.nsIn K mainGlobals "range" = some none)
    (z_repr : PySem.W.nsIn K mainGlobals "repr" = some none)
    (z_sorted : PySem.W.nsIn K mainGlobals "sorted" = some none)
    (z_str : PySem.W.nsIn K mainGlobals "str" = some none)
    (z_tuple : PySem.W.nsIn K mainGlobals "tuple" = some none)
    (z_zip : PySem.W.nsIn K mainGlobals "zip" = some none)
    (y_BY_RULE : PySem.W.nsIn K mainGlobals "BY_RULE" = some (some (.ref ra_BY_RULE))) (d_BY_RULE : K.lookup ra_BY_RULE = some ⟨.type "dict", none, .dict es_BY_RULE en_BY_RULE, #[]⟩) (q_BY_RULE : PySem.W.KeysLit w.params es_BY_RULE.toList)
    (n_BY_RULE_down : PySem.W.nsIn K ra_BY_RULE "down" = some (some (.ref ra_BY_RULE_down)))
    (x_BY_RULE_down : K.lookup ra_BY_RULE_down = some ⟨.type "tuple", rd_BY_RULE_down, .seq #[.ref ra_BY_RULE_down_0, .ref ra_BY_RULE_down_1] rn_BY_RULE_down, rs_BY_RULE_down⟩)
    (x_BY_RULE_down_0 : K.lookup ra_BY_RULE_down_0 = some ⟨.type "tuple", rd_BY_RULE_down_0, .seq #[.ref ra_BY_RULE_down_0_0, .str "up" tk_BY_RULE_down_0_1] rn_BY_RULE_down_0, rs_BY_RULE_down_0⟩)
    (x_BY_RULE_down_0_0 : K.lookup ra_BY_RULE_down_0_0 = some ⟨.type "tuple", rd_BY_RULE_down_0_0, .seq #[.int 1 tk_BY_RULE_down_0_0_0, .int 1 tk_BY_RULE_down_0_0_1] rn_BY_RULE_down_0_0, rs_BY_RULE_down_0_0⟩)
    (x_BY_RULE_down_1 : K.lookup ra_BY_RULE_down_1 = some ⟨.type "tuple", rd_BY_RULE_down_1, .seq #[.ref ra_BY_RULE_down_1_0, .str "up" tk_BY_RULE_down_1_1] rn_BY_RULE_down_1, rs_BY_RULE_down_1⟩)
    (x_BY_RULE_down_1_0 : K.lookup ra_BY_RULE_down_1_0 = some ⟨.type "tuple", rd_BY_RULE_down_1_0, .seq #[.int 1 tk_BY_RULE_down_1_0_0, .int 1 tk_BY_RULE_down_1_0_1] rn_BY_RULE_down_1_0, rs_BY_RULE_down_1_0⟩)
    (n_BY_RULE_half_down : PySem.W.nsIn K ra_BY_RULE "half_down" = some (some (.ref ra_BY_RULE_half_down)))
    (x_BY_RULE_half_down : K.lookup ra_BY_RULE_half_down = some ⟨.type "tuple", rd_BY_RULE_half_down, .seq #[.ref ra_BY_RULE_half_down_0, .ref ra_BY_RULE_half_down_1] rn_BY_RULE_half_down, rs_BY_RULE_half_down⟩)
    (x_BY_RULE_half_down_0 : K.lookup ra_BY_RULE_half_down_0 = some ⟨.type "tuple", rd_BY_RULE_half_down_0, .seq #[.ref ra_BY_RULE_half_down_0_0, .str "down" tk_BY_RULE_half_down_0_1] rn_BY_RULE_half_down_0, rs_BY_RULE_half_down_0⟩)
    (x_BY_RULE_half_down_0_0 : K.lookup ra_BY_RULE_half_down_0_0 = some ⟨.type "tuple", rd_BY_RULE_half_down_0_0, .seq #[.int 1 tk_BY_RULE_half_down_0_0_0, .int 2 tk_BY_RULE_half_down_0_0_1] rn_BY_RULE_half_down_0_0, rs_BY_RULE_half_down_0_0⟩)
    (x_BY_RULE_half_down_1 : K.lookup ra_BY_RULE_half_down_1 = some ⟨.type "tuple", rd_BY_RULE_half_down_1, .seq #[.ref ra_BY_RULE_half_down_1_0, .str "down" tk_BY_RULE_half_down_1_1] rn_BY_RULE_half_down_1, rs_BY_RULE_half_down_1⟩)
    (x_BY_RULE_half_down_1_0 : K.lookup ra_BY_RULE_half_down_1_0 = some ⟨.type "tuple", rd_BY_RULE_half_down_1_0, .seq #[.int 1 tk_BY_RULE_half_down_1_0_0, .int 2 tk_BY_RULE_half_down_1_0_1] rn_BY_RULE_half_down_1_0, rs_BY_RULE_half_down_1_0⟩)
    (n_BY_RULE_half_even : PySem.W.nsIn K ra_BY_RULE "half_even" = some (some (.ref ra_BY_RULE_half_even)))
    (x_BY_RULE_half_even : K.lookup ra_BY_RULE_half_even = some ⟨.type "tuple", rd_BY_RULE_half_even, .seq #[.ref ra_BY_RULE_half_even_0, .ref ra_BY_RULE_half_even_1] rn_BY_RULE_half_even, rs_BY_RULE_half_even⟩)
    (x_BY_RULE_half_even_0 : K.lookup ra_BY_RULE_half_even_0 = some ⟨.type "tuple", rd_BY_RULE_half_even_0, .seq #[.ref ra_BY_RULE_half_even_0_0, .str "down" tk_BY_RULE_half_even_0_1] rn_BY_RULE_half_even_0, rs_BY_RULE_half_even_0⟩)
    (x_BY_RULE_half_even_0_0 : K.lookup ra_BY_RULE_half_even_0_0 = some ⟨.type "tuple", rd_BY_RULE_half_even_0_0, .seq #[.int 1 tk_BY_RULE_half_even_0_0_0, .int 2 tk_BY_RULE_half_even_0_0_1] rn_BY_RULE_half_even_0_0, rs_BY_RULE_half_even_0_0⟩)
    (x_BY_RULE_half_even_1 : K.lookup ra_BY_RULE_half_even_1 = some ⟨.type "tuple", rd_BY_RULE_half_even_1, .seq #[.ref ra_BY_RULE_half_even_1_0, .str "up" tk_BY_RULE_half_even_1_1] rn_BY_RULE_half_even_1, rs_BY_RULE_half_even_1⟩)
    (x_BY_RULE_half_even_1_0 : K.lookup ra_BY_RULE_half_even_1_0 = some ⟨.type "tuple", rd_BY_RULE_half_even_1_0, .seq #[.int 1 tk_BY_RULE_half_even_1_0_0, .int 2 tk_BY_RULE_half_even_1_0_1] rn_BY_RULE_half_even_1_0, rs_BY_RULE_half_even_1_0⟩)
    (n_BY_RULE_half_up : PySem.W.nsIn K ra_BY_RULE "half_up" = some (some (.ref ra_BY_RULE_half_up)))
    (x_BY_RULE_half_up : K.lookup ra_BY_RULE_half_up = some ⟨.type "tuple", rd_BY_RULE_half_up, .seq #[.ref ra_BY_RULE_half_up_0, .ref ra_BY_RULE_half_up_1] rn_BY_RULE_half_up, rs_BY_RULE_half_up⟩)
    (x_BY_RULE_half_up_0 : K.lookup ra_BY_RULE_half_up_0 = some ⟨.type "tuple", rd_BY_RULE_half_up_0, .seq #[.ref ra_BY_RULE_half_up_0_0, .str "up" tk_BY_RULE_half_up_0_1] rn_BY_RULE_half_up_0, rs_BY_RULE_half_up_0⟩)
    (x_BY_RULE_half_up_0_0 : K.lookup ra_BY_RULE_half_up_0_0 = some ⟨.type "tuple", rd_BY_RULE_half_up_0_0, .seq #[.int 1 tk_BY_RULE_half_up_0_0_0, .int 2 tk_BY_RULE_half_up_0_0_1] rn_BY_RULE_half_up_0_0, rs_BY_RULE_half_up_0_0⟩)
    (x_BY_RULE_half_up_1 : K.lookup ra_BY_RULE_half_up_1 = some ⟨.type "tuple", rd_BY_RULE_half_up_1, .seq #[.ref ra_BY_RULE_half_up_1_0, .str "up" tk_BY_RULE_half_up_1_1] rn_BY_RULE_half_up_1, rs_BY_RULE_half_up_1⟩)
    (x_BY_RULE_half_up_1_0 : K.lookup ra_BY_RULE_half_up_1_0 = some ⟨.type "tuple", rd_BY_RULE_half_up_1_0, .seq #[.int 1 tk_BY_RULE_half_up_1_0_0, .int 2 tk_BY_RULE_half_up_1_0_1] rn_BY_RULE_half_up_1_0, rs_BY_RULE_half_up_1_0⟩)
    (n_BY_RULE_odd : PySem.W.nsIn K ra_BY_RULE "odd" = some (some (.ref ra_BY_RULE_odd)))
    (x_BY_RULE_odd : K.lookup ra_BY_RULE_odd = some ⟨.type "tuple", rd_BY_RULE_odd, .seq #[.ref ra_BY_RULE_odd_0, .ref ra_BY_RULE_odd_1] rn_BY_RULE_odd, rs_BY_RULE_odd⟩)
    (x_BY_RULE_odd_0 : K.lookup ra_BY_RULE_odd_0 = some ⟨.type "tuple", rd_BY_RULE_odd_0, .seq #[.ref ra_BY_RULE_odd_0_0, .str "down" tk_BY_RULE_odd_0_1] rn_BY_RULE_odd_0, rs_BY_RULE_odd_0⟩)
    (x_BY_RULE_odd_0_0 : K.lookup ra_BY_RULE_odd_0_0 = some ⟨.type "tuple", rd_BY_RULE_odd_0_0, .seq #[.int 0 tk_BY_RULE_odd_0_0_0, .int 1 tk_BY_RULE_odd_0_0_1] rn_BY_RULE_odd_0_0, rs_BY_RULE_odd_0_0⟩)
    (x_BY_RULE_odd_1 : K.lookup ra_BY_RULE_odd_1 = some ⟨.type "tuple", rd_BY_RULE_odd_1, .seq #[.ref ra_BY_RULE_odd_1_0, .str "up" tk_BY_RULE_odd_1_1] rn_BY_RULE_odd_1, rs_BY_RULE_odd_1⟩)
    (x_BY_RULE_odd_1_0 : K.lookup ra_BY_RULE_odd_1_0 = some ⟨.type "tuple", rd_BY_RULE_odd_1_0, .seq #[.int 1 tk_BY_RULE_odd_1_0_0, .int 1 tk_BY_RULE_odd_1_0_1] rn_BY_RULE_odd_1_0, rs_BY_RULE_odd_1_0⟩)
    (n_BY_RULE_up : PySem.W.nsIn K ra_BY_RULE "up" = some (some (.ref ra_BY_RULE_up)))
    (x_BY_RULE_up : K.lookup ra_BY_RULE_up = some ⟨.type "tuple", rd_BY_RULE_up, .seq #[.ref ra_BY_RULE_up_0, .ref ra_BY_RULE_up_1] rn_BY_RULE_up, rs_BY_RULE_up⟩)
    (x_BY_RULE_up_0 : K.lookup ra_BY_RULE_up_0 = some ⟨.type "tuple", rd_BY_RULE_up_0, .seq #[.ref ra_BY_RULE_up_0_0, .str "down" tk_BY_RULE_up_0_1] rn_BY_RULE_up_0, rs_BY_RULE_up_0⟩)
    (x_BY_RULE_up_0_0 : K.lookup ra_BY_RULE_up_0_0 = some ⟨.type "tuple", rd_BY_RULE_up_0_0, .seq #[.int 0 tk_BY_RULE_up_0_0_0, .int 1 tk_BY_RULE_up_0_0_1] rn_BY_RULE_up_0_0, rs_BY_RULE_up_0_0⟩)
    (x_BY_RULE_up_1 : K.lookup ra_BY_RULE_up_1 = some ⟨.type "tuple", rd_BY_RULE_up_1, .seq #[.ref ra_BY_RULE_up_1_0, .str "down" tk_BY_RULE_up_1_1] rn_BY_RULE_up_1, rs_BY_RULE_up_1⟩)
    (x_BY_RULE_up_1_0 : K.lookup ra_BY_RULE_up_1_0 = some ⟨.type "tuple", rd_BY_RULE_up_1_0, .seq #[.int 0 tk_BY_RULE_up_1_0_0, .int 1 tk_BY_RULE_up_1_0_1] rn_BY_RULE_up_1_0, rs_BY_RULE_up_1_0⟩)
    (y_DOWN : PySem.W.nsIn K mainGlobals "DOWN" = some (some (.str "down" tk_DOWN)))
    (y_MOST_STEPS : PySem.W.nsIn K mainGlobals "MOST_STEPS" = some (some (.int 12 tk_MOST_STEPS)))
    (y_MOST_WIDTH : PySem.W.nsIn K mainGlobals "MOST_WIDTH" = some (some (.int 100 tk_MOST_WIDTH)))
    (y_PAIR : PySem.W.nsIn K mainGlobals "PAIR" = some (some (.int 2 tk_PAIR)))
    (y_RULES : PySem.W.nsIn K mainGlobals "RULES" = some (some (.ref ra_RULES)))
    (x_RULES : K.lookup ra_RULES = some ⟨.type "tuple", rd_RULES, .seq #[.str "down" tk_RULES_0, .str "half_down" tk_RULES_1, .str "half_even" tk_RULES_2, .str "half_up" tk_RULES_3, .str "odd" tk_RULES_4, .str "up" tk_RULES_5] rn_RULES, rs_RULES⟩)
    (y_UP : PySem.W.nsIn K mainGlobals "UP" = some (some (.str "up" tk_UP)))
    (y_RE : PySem.W.nsIn K mainGlobals "RoundingError" = some (some (.ref C_RoundingError))) (eg_RE : PySem.W.specialIn K (.ref C_RoundingError) "__getattribute__" = some (some (.builtin "type.__getattribute__"))) (er_RE : PySem.W.readsIn K C_RoundingError (.type "type") = true) (ei_RE : PySem.W.findCls K (.ref C_RoundingError) (.type "type") "__init__" = some (.val (.builtin "ValueError.__init__")))
    (y_DifferentWidths : PySem.W.nsIn K mainGlobals "DifferentWidths" = some (some (.ref C_DifferentWidths))) (ex_DifferentWidths : PySem.W.subIn K (.ref C_DifferentWidths) (.type "BaseException") = some true) (et_DifferentWidths : PySem.W.typeIn K (.ref C_DifferentWidths) = some (.type "type")) (ek_DifferentWidths : PySem.W.keepIn K (.ref C_DifferentWidths) = true) (eu_DifferentWidths : PySem.W.hasDictIn K C_DifferentWidths = true)
    (ec_DifferentWidths : K.lookup C_DifferentWidths = some (excClassObj nm_DifferentWidths q_DifferentWidths C_DifferentWidths N_DifferentWidths bs_DifferentWidths bm_DifferentWidths true sn_DifferentWidths sub_DifferentWidths ab_DifferentWidths col_DifferentWidths dd_DifferentWidths k0_DifferentWidths k1_DifferentWidths k2_DifferentWidths k3_DifferentWidths k5_DifferentWidths "ValueError.__new__")) (em_DifferentWidths : PySem.HandSPX.refsVE bm_DifferentWidths = true) (es_DifferentWidths : PySem.W.findIn K (.ref C_DifferentWidths) "__setattr__" = some (some (.builtin "object.__setattr__")))
    (sb_DifferentWidths_DifferentWidths : PySem.W.subIn K (.ref C_DifferentWidths) (.ref C_DifferentWidths) = some true)
    (sb_DifferentWidths_InvalidChain : PySem.W.subIn K (.ref C_DifferentWidths) (.ref C_InvalidChain) = some false)
    (y_InvalidChain : PySem.W.nsIn K mainGlobals "InvalidChain" = some (some (.ref C_InvalidChain))) (ex_InvalidChain : PySem.W.subIn K (.ref C_InvalidChain) (.type "BaseException") = some true) (et_InvalidChain : PySem.W.typeIn K (.ref C_InvalidChain) = some (.type "type")) (ek_InvalidChain : PySem.W.keepIn K (.ref C_InvalidChain) = true) (eu_InvalidChain : PySem.W.hasDictIn K C_InvalidChain = true)
    (ec_InvalidChain : K.lookup C_InvalidChain = some (excClassObj nm_InvalidChain q_InvalidChain C_InvalidChain N_InvalidChain bs_InvalidChain bm_InvalidChain true sn_InvalidChain sub_InvalidChain ab_InvalidChain col_InvalidChain dd_InvalidChain k0_InvalidChain k1_InvalidChain k2_InvalidChain k3_InvalidChain k5_InvalidChain "ValueError.__new__")) (em_InvalidChain : PySem.HandSPX.refsVE bm_InvalidChain = true)
    (es_InvalidChain : PySem.W.findIn K (.ref C_InvalidChain) "__setattr__" = some (some (.builtin "object.__setattr__"))) (ev_InvalidChain : PySem.W.findIn K (.ref C_InvalidChain) "value" = some none) (eb_InvalidChain : PySem.W.findIn K (.ref C_InvalidChain) "__getattribute__" = some (some (.builtin "BaseException.__getattribute__"))) (ed_InvalidChain : PySem.W.findIn K (.ref C_InvalidChain) "__getattr__" = some none)
    (sb_InvalidChain_DifferentWidths : PySem.W.subIn K (.ref C_InvalidChain) (.ref C_DifferentWidths) = some false)
    (sb_InvalidChain_InvalidChain : PySem.W.subIn K (.ref C_InvalidChain) (.ref C_InvalidChain) = some true)
    (u_tab0 : cd34 = .ref cT0) (y_tab0 : h.get? pT0 = some (PySem.W.tabObj #[])) (t_tab0 : PySem.W.tabIn K "law" = some (cT0, pT0)) (d_tab0 : PySem.W.codeHdIn K cT0 pT0 = true) (n_tab0 : K.lookup pT0 = none) : Tx w K mg :=
  { f_DifferentWidths_init := f0, fd_DifferentWidths_init := _, F_DifferentWidths_init := fun_mk (st := st_DifferentWidths_init) l0 c0 k0, b_DifferentWidths_init := (fun_mk (st := st_DifferentWidths_init) l0 c0 k0).binds (ps := ["self"]) fun _ _ _ _ _ _ us hl => match us, hl with | [_], _ => rfl,
    f_InvalidChain_init := f1, fd_InvalidChain_init := _, F_InvalidChain_init := fun_mk (st := st_InvalidChain_init) l1 c1 k1, b_InvalidChain_init := (fun_mk (st := st_InvalidChain_init) l1 c1 k1).binds (ps := ["self", "value"]) fun _ _ _ _ _ _ us hl => match us, hl with | [_, _], _ => rfl,
    f_is_int := f2, fd_is_int := _, F_is_int := fun_mk (st := st_is_int) l2 c2 k2, b_is_int := (fun_mk (st := st_is_int) l2 c2 k2).binds (ps := ["value", "least"]) fun _ _ _ _ _ _ us hl => match us, hl with | [_, _], _ => rfl,
    g_is_int := PySem.W.mg_of X G a2,
    f_common_divisor := f3, fd_common_divisor := _, F_common_divisor := fun_mk (st := st_common_divisor) l3 c3 k3, b_common_divisor := (fun_mk (st := st_common_divisor) l3 c3 k3).binds (ps := ["one", "other"]) fun _ _ _ _ _ _ us hl => match us, hl with | [_, _], _ => rfl,
    g_common_divisor := PySem.W.mg_of X G a3,
    f_lowest := f4, fd_lowest := _, F_lowest := fun_mk (st := st_lowest) l4 c4 k4, b_lowest := (fun_mk (st := st_lowest) l4 c4 k4).binds (ps := ["n", "d"]) fun _ _ _ _ _ _ us hl => match us, hl with | [_, _], _ => rfl,
    g_lowest := PySem.W.mg_of X G a4,
    f_is_width := f5, fd_is_width := _, F_is_width := fun_mk (st := st_is_width) l5 c5 k5, b_is_width := (fun_mk (st := st_is_width) l5 c5 k5).binds (ps := ["value"]) fun _ _ _ _ _ _ us hl => match us, hl with | [_], _ => rfl,
    g_is_width := PySem.W.mg_of X G a5,
    f_is_rule := f6, fd_is_rule := _, F_is_rule := fun_mk (st := st_is_rule) l6 c6 k6, b_is_rule := (fun_mk (st := st_is_rule) l6 c6 k6).binds (ps := ["value"]) fun _ _ _ _ _ _ us hl => match us, hl with | [_], _ => rfl,
    g_is_rule := PySem.W.mg_of X G a6,
    f_is_step := f7, fd_is_step := _, F_is_step := fun_mk (st := st_is_step) l7 c7 k7, b_is_step := (fun_mk (st := st_is_step) l7 c7 k7).binds (ps := ["value"]) fun _ _ _ _ _ _ us hl => match us, hl with | [_], _ => rfl,
    g_is_step := PySem.W.mg_of X G a7,
    f_is_chain := f8, fd_is_chain := _, F_is_chain := fun_mk (st := st_is_chain) l8 c8 k8, b_is_chain := (fun_mk (st := st_is_chain) l8 c8 k8).binds (ps := ["value"]) fun _ _ _ _ _ _ us hl => match us, hl with | [_], _ => rfl,
    g_is_chain := PySem.W.mg_of X G a8,
    f_check_chain := f9, fd_check_chain := _, F_check_chain := fun_mk (st := st_check_chain) l9 c9 k9, b_check_chain := (fun_mk (st := st_check_chain) l9 c9 k9).binds (ps := ["value"]) fun _ _ _ _ _ _ us hl => match us, hl with | [_], _ => rfl,
    g_check_chain := PySem.W.mg_of X G a9,
    f_last_width := f10, fd_last_width := _, F_last_width := fun_mk (st := st_last_width) l10 c10 k10, b_last_width := (fun_mk (st := st_last_width) l10 c10 k10).binds (ps := ["chain"]) fun _ _ _ _ _ _ us hl => match us, hl with | [_], _ => rfl,
    g_last_width := PySem.W.mg_of X G a10,
    f_trimmed := f11, fd_trimmed := _, F_trimmed := fun_mk (st := st_trimmed) l11 c11 k11, b_trimmed := (fun_mk (st := st_trimmed) l11 c11 k11).binds (ps := ["chain"]) fun _ _ _ _ _ _ us hl => match us, hl with | [_], _ => rfl,
    g_trimmed := PySem.W.mg_of X G a11,
    f_last_down := f12, fd_last_down := _, F_last_down := fun_mk (st := st_last_down) l12 c12 k12, b_last_down := (fun_mk (st := st_last_down) l12 c12 k12).binds (ps := ["rule", "far", "parity"]) fun _ _ _ _ _ _ us hl => match us, hl with | [_, _, _], _ => rfl,
    g_last_down := PySem.W.mg_of X G a12,
    f_combined := f13, fd_combined := _, F_combined := fun_mk (st := st_combined) l13 c13 k13, b_combined := (fun_mk (st := st_combined) l13 c13 k13).binds (ps := ["pair", "rule", "far"]) fun _ _ _ _ _ _ us hl => match us, hl with | [_, _, _], _ => rfl,
    g_combined := PySem.W.mg_of X G a13,
    f_thresholds := f14, fd_thresholds := _, F_thresholds := fun_mk (st := st_thresholds) l14 c14 k14, b_thresholds := (fun_mk (st := st_thresholds) l14 c14 k14).binds (ps := ["chain"]) fun _ _ _ _ _ _ us hl => match us, hl with | [_], _ => rfl,
    g_thresholds := PySem.W.mg_of X G a14,
    f_check_chains := f15, fd_check_chains := _, F_check_chains := fun_mk (st := st_check_chains) l15 c15 k15, b_check_chains := (fun_mk (st := st_check_chains) l15 c15 k15).binds (ps := ["one", "other"]) fun _ _ _ _ _ _ us hl => match us, hl with | [_, _], _ => rfl,
    g_check_chains := PySem.W.mg_of X G a15,
    f_same := f16, fd_same := _, F_same := fun_mk (st := st_same) l16 c16 k16, b_same := (fun_mk (st := st_same) l16 c16 k16).binds (ps := ["one", "other"]) fun _ _ _ _ _ _ us hl => match us, hl with | [_, _], _ => rfl,
    g_same := PySem.W.mg_of X G a16,
    f_is_before := f17, fd_is_before := _, F_is_before := fun_mk (st := st_is_before) l17 c17 k17, b_is_before := (fun_mk (st := st_is_before) l17 c17 k17).binds (ps := ["one", "other"]) fun _ _ _ _ _ _ us hl => match us, hl with | [_, _], _ => rfl,
    g_is_before := PySem.W.mg_of X G a17,
    f_zone := f18, fd_zone := _, F_zone := fun_mk (st := st_zone) l18 c18 k18, b_zone := (fun_mk (st := st_zone) l18 c18 k18).binds (ps := ["one", "other"]) fun _ _ _ _ _ _ us hl => match us, hl with | [_, _], _ => rfl,
    g_zone := PySem.W.mg_of X G a18,
    f_zones := f19, fd_zones := _, F_zones := fun_mk (st := st_zones) l19 c19 k19, b_zones := (fun_mk (st := st_zones) l19 c19 k19).binds (ps := ["one", "other"]) fun _ _ _ _ _ _ us hl => match us, hl with | [_, _], _ => rfl,
    g_zones := PySem.W.mg_of X G a19,
    f_first_part := f20, fd_first_part := _, F_first_part := fun_mk (st := st_first_part) l20 c20 k20, b_first_part := (fun_mk (st := st_first_part) l20 c20 k20).binds (ps := ["span", "parts"]) fun _ _ _ _ _ _ us hl => match us, hl with | [_, _], _ => rfl,
    g_first_part := PySem.W.mg_of X G a20,
    f_simplest_difference := f21, fd_simplest_difference := _, F_simplest_difference := fun_mk (st := st_simplest_difference) l21 c21 k21, b_simplest_difference := (fun_mk (st := st_simplest_difference) l21 c21 k21).binds (ps := ["one", "other"]) fun _ _ _ _ _ _ us hl => match us, hl with | [_, _], _ => rfl,
    g_simplest_difference := PySem.W.mg_of X G a21,
    f__law_source := f22, fd__law_source := _, F__law_source := fun_mk (st := st__law_source) l22 c22 k22, b__law_source := (fun_mk (st := st__law_source) l22 c22 k22).binds (ps := ["_law_script", "_law_k"]) fun _ _ _ _ _ _ us hl => match us, hl with | [_, _], _ => rfl,
    g__law_source := PySem.W.mg_of X G a22,
    f__law_draw := f23, fd__law_draw := _, F__law_draw := fun_mk (st := st__law_draw) l23 c23 k23, b__law_draw := (fun_mk (st := st__law_draw) l23 c23 k23).binds (ps := ["_law_source_here", "_law_size"]) fun _ _ _ _ _ _ us hl => match us, hl with | [_, _], _ => rfl,
    g__law_draw := PySem.W.mg_of X G a23,
    f__law_pick := f24, fd__law_pick := _, F__law_pick := fun_mk (st := st__law_pick) l24 c24 k24, b__law_pick := (fun_mk (st := st__law_pick) l24 c24 k24).binds (ps := ["_law_source_here", "_law_some"]) fun _ _ _ _ _ _ us hl => match us, hl with | [_, _], _ => rfl,
    g__law_pick := PySem.W.mg_of X G a24,
    f__law_rule := f25, fd__law_rule := _, F__law_rule := fun_mk (st := st__law_rule) l25 c25 k25, b__law_rule := (fun_mk (st := st__law_rule) l25 c25 k25).binds (ps := ["_law_source_here"]) fun _ _ _ _ _ _ us hl => match us, hl with | [_], _ => rfl,
    g__law_rule := PySem.W.mg_of X G a25,
    f__law_chain := f26, fd__law_chain := _, F__law_chain := fun_mk (st := st__law_chain) l26 c26 k26, b__law_chain := (fun_mk (st := st__law_chain) l26 c26 k26).binds (ps := ["_law_source_here", "_law_last", "_law_most", "_law_far"]) fun _ _ _ _ _ _ us hl => match us, hl with | [_, _, _, _], _ => rfl,
    g__law_chain := PySem.W.mg_of X G a26,
    f__law_is_count := f27, fd__law_is_count := _, F__law_is_count := fun_mk (st := st__law_is_count) l27 c27 k27, b__law_is_count := (fun_mk (st := st__law_is_count) l27 c27 k27).binds (ps := ["_law_value_here"]) fun _ _ _ _ _ _ us hl => match us, hl with | [_], _ => rfl,
    g__law_is_count := PySem.W.mg_of X G a27,
    f__law_is_chain := f28, fd__law_is_chain := _, F__law_is_chain := fun_mk (st := st__law_is_chain) l28 c28 k28, b__law_is_chain := (fun_mk (st := st__law_is_chain) l28 c28 k28).binds (ps := ["_law_value_here"]) fun _ _ _ _ _ _ us hl => match us, hl with | [_], _ => rfl,
    g__law_is_chain := PySem.W.mg_of X G a28,
    f__law_least := f29, fd__law_least := _, F__law_least := fun_mk (st := st__law_least) l29 c29 k29, b__law_least := (fun_mk (st := st__law_least) l29 c29 k29).binds (ps := ["_law_chain_here"]) fun _ _ _ _ _ _ us hl => match us, hl with | [_], _ => rfl,
    g__law_least := PySem.W.mg_of X G a29,
    f__law_odd_value := f30, fd__law_odd_value := _, F__law_odd_value := fun_mk (st := st__law_odd_value) l30 c30 k30, b__law_odd_value := (fun_mk (st := st__law_odd_value) l30 c30 k30).binds (ps := ["_law_source_here"]) fun _ _ _ _ _ _ us hl => match us, hl with | [_], _ => rfl,
    g__law_odd_value := PySem.W.mg_of X G a30,
    f__law_value := f31, fd__law_value := _, F__law_value := fun_mk (st := st__law_value) l31 c31 k31, b__law_value := (fun_mk (st := st__law_value) l31 c31 k31).binds (ps := ["_law_source_here", "_law_last", "_law_most", "_law_far"]) fun _ _ _ _ _ _ us hl => match us, hl with | [_, _, _, _], _ => rfl,
    g__law_value := PySem.W.mg_of X G a31,
    f__law_caught := f32, fd__law_caught := _, F__law_caught := fun_mk (st := st__law_caught) l32 c32 k32, b__law_caught := (fun_mk (st := st__law_caught) l32 c32 k32).binds (ps := ["_law_ask"]) fun _ _ _ _ _ _ us hl => match us, hl with | [_], _ => rfl,
    g__law_caught := PySem.W.mg_of X G a32,
    f__law_due := f33, fd__law_due := _, F__law_due := fun_mk (st := st__law_due) l33 c33 k33, b__law_due := (fun_mk (st := st__law_due) l33 c33 k33).binds (ps := ["_law_one", "_law_other", "_law_compares_widths"]) fun _ _ _ _ _ _ us hl => match us, hl with | [_, _, _], _ => rfl,
    g__law_due := PySem.W.mg_of X G a33,
    f_law := f34, fd_law := _, F_law := fun_mk (st := st_law) l34 c34 k34, b_law := (fun_mk (st := st_law) l34 c34 k34).binds (ps := ["_law_script"]) fun _ _ _ _ _ _ us hl => match us, hl with | [_], _ => rfl,
    g_law := PySem.W.mg_of X G a34,
    c_tab_law := cT0, P_tab_law := pT0, tab_law := t_tab0, code_law := u_tab0,
    C_RoundingError := C_RoundingError, g_RoundingError := PySem.W.mg_of X G y_RE, bc := ⟨eg_RE, er_RE, ei_RE⟩,
    C_DifferentWidths := C_DifferentWidths, g_DifferentWidths := PySem.W.mg_of X G y_DifferentWidths,
    xi_DifferentWidths := ⟨⟨⟨_, _, _, _, _, _, _, _, _, _, _, _, _, _, _, ec_DifferentWidths, em_DifferentWidths⟩, es_DifferentWidths, ex_DifferentWidths, et_DifferentWidths, ek_DifferentWidths⟩, y_DifferentWidths, a0, beq_iff_eq.mp i0⟩,
    C_InvalidChain := C_InvalidChain, g_InvalidChain := PySem.W.mg_of X G y_InvalidChain,
    xv_InvalidChain := ⟨⟨⟨_, _, _, _, _, _, _, _, _, _, _, _, _, _, _, ec_InvalidChain, em_InvalidChain⟩, es_InvalidChain, ex_InvalidChain, et_InvalidChain, ek_InvalidChain⟩, y_InvalidChain, a1, beq_iff_eq.mp i1, ev_InvalidChain⟩,
    hx_DifferentWidths := fun nm hm => by
      simp only [List.mem_cons, List.not_mem_nil, or_false] at hm
      rcases hm with rfl | rfl
      · exact ⟨_, y_DifferentWidths, (show xsub "DifferentWidths" "DifferentWidths" = true from by decide +kernel) ▸ PySem.W.exm_ref ex_DifferentWidths eu_DifferentWidths et_DifferentWidths sb_DifferentWidths_DifferentWidths⟩
      · exact ⟨_, y_InvalidChain, (show xsub "InvalidChain" "DifferentWidths" = false from by decide +kernel) ▸ PySem.W.exm_ref ex_DifferentWidths eu_DifferentWidths et_DifferentWidths sb_InvalidChain_DifferentWidths⟩,
    hx_InvalidChain := fun nm hm => by
      simp only [List.mem_cons, List.not_mem_nil, or_false] at hm
      rcases hm with rfl | rfl
      · exact ⟨_, y_DifferentWidths, (show xsub "DifferentWidths" "InvalidChain" = false from by decide +kernel) ▸ PySem.W.exm_ref ex_InvalidChain eu_InvalidChain et_InvalidChain sb_DifferentWidths_InvalidChain⟩
      · exact ⟨_, y_InvalidChain, (show xsub "InvalidChain" "InvalidChain" = true from by decide +kernel) ▸ PySem.W.exm_ref ex_InvalidChain eu_InvalidChain et_InvalidChain sb_InvalidChain_InvalidChain⟩,
    hv := fun nm hm => by
      simp only [List.mem_cons, List.not_mem_nil, or_false] at hm
      rcases hm with rfl
      · exact ⟨_, y_InvalidChain, ⟨eb_InvalidChain, ed_InvalidChain, ex_InvalidChain, eu_InvalidChain⟩, ev_InvalidChain⟩,
    n_abs := PySem.W.mg_none_of X G z_abs,
    n_all := PySem.W.mg_none_of X G z_all,
    n_bool := PySem.W.mg_none_of X G z_bool,
    n_enumerate := PySem.W.mg_none_of X G z_enumerate,
    n_int := PySem.W.mg_none_of X G z_int,
    n_isinstance := PySem.W.mg_none_of X G z_isinstance,
    n_len := PySem.W.mg_none_of X G z_len,
    n_list := PySem.W.mg_none_of X G z_list,
    n_min := PySem.W.mg_none_of X G z_min,
    n_range := PySem.W.mg_none_of X G z_range,
    n_repr := PySem.W.mg_none_of X G z_repr,
    n_sorted := PySem.W.mg_none_of X G z_sorted,
    n_str := PySem.W.mg_none_of X G z_str,
    n_tuple := PySem.W.mg_none_of X G z_tuple,
    n_zip := PySem.W.mg_none_of X G z_zip,
    ra_BY_RULE := ra_BY_RULE, c_BY_RULE := PySem.W.mg_of X G y_BY_RULE, k_BY_RULE := fun ru => match ru with | .dn => ⟨.ref ra_BY_RULE_down, kdct_of2 d_BY_RULE q_BY_RULE n_BY_RULE_down rfl, fun _ => .tup (.inr ⟨_, _, _, x_BY_RULE_down, rfl, rfl, by (show 2 ≤ sizeLine; decide), (show Vals [.ref ra_BY_RULE_down_0, .ref ra_BY_RULE_down_1] _ from .cons rfl (.cons rfl (.nil)))⟩) (.cons (.tup (.inr ⟨_, _, _, x_BY_RULE_down_0, rfl, rfl, by (show 2 ≤ sizeLine; decide), (show Vals [.ref ra_BY_RULE_down_0_0, .str "up"] _ from .cons rfl (.cons ⟨_, rfl⟩ (.nil)))⟩) (.cons (.tup (.inr ⟨_, _, _, x_BY_RULE_down_0_0, rfl, rfl, by (show 2 ≤ sizeLine; decide), (show Vals [.int 1, .int 1] _ from .cons ⟨_, rfl⟩ (.cons ⟨_, rfl⟩ (.nil)))⟩) (.cons (.int _) (.cons (.int _) (.nil)))) (.cons (.str _) (.nil)))) (.cons (.tup (.inr ⟨_, _, _, x_BY_RULE_down_1, rfl, rfl, by (show 2 ≤ sizeLine; decide), (show Vals [.ref ra_BY_RULE_down_1_0, .str "up"] _ from .cons rfl (.cons ⟨_, rfl⟩ (.nil)))⟩) (.cons (.tup (.inr ⟨_, _, _, x_BY_RULE_down_1_0, rfl, rfl, by (show 2 ≤ sizeLine; decide), (show Vals [.int 1, .int 1] _ from .cons ⟨_, rfl⟩ (.cons ⟨_, rfl⟩ (.nil)))⟩) (.cons (.int _) (.cons (.int _) (.nil)))) (.cons (.str _) (.nil)))) (.nil)))⟩ | .hd => ⟨.ref ra_BY_RULE_half_down, kdct_of2 d_BY_RULE q_BY_RULE n_BY_RULE_half_down rfl, fun _ => .tup (.inr ⟨_, _, _, x_BY_RULE_half_down, rfl, rfl, by (show 2 ≤ sizeLine; decide), (show Vals [.ref ra_BY_RULE_half_down_0, .ref ra_BY_RULE_half_down_1] _ from .cons rfl (.cons rfl (.nil)))⟩) (.cons (.tup (.inr ⟨_, _, _, x_BY_RULE_half_down_0, rfl, rfl, by (show 2 ≤ sizeLine; decide), (show Vals [.ref ra_BY_RULE_half_down_0_0, .str "down"] _ from .cons rfl (.cons ⟨_, rfl⟩ (.nil)))⟩) (.cons (.tup (.inr ⟨_, _, _, x_BY_RULE_half_down_0_0, rfl, rfl, by (show 2 ≤ sizeLine; decide), (show Vals [.int 1, .int 2] _ from .cons ⟨_, rfl⟩ (.cons ⟨_, rfl⟩ (.nil)))⟩) (.cons (.int _) (.cons (.int _) (.nil)))) (.cons (.str _) (.nil)))) (.cons (.tup (.inr ⟨_, _, _, x_BY_RULE_half_down_1, rfl, rfl, by (show 2 ≤ sizeLine; decide), (show Vals [.ref ra_BY_RULE_half_down_1_0, .str "down"] _ from .cons rfl (.cons ⟨_, rfl⟩ (.nil)))⟩) (.cons (.tup (.inr ⟨_, _, _, x_BY_RULE_half_down_1_0, rfl, rfl, by (show 2 ≤ sizeLine; decide), (show Vals [.int 1, .int 2] _ from .cons ⟨_, rfl⟩ (.cons ⟨_, rfl⟩ (.nil)))⟩) (.cons (.int _) (.cons (.int _) (.nil)))) (.cons (.str _) (.nil)))) (.nil)))⟩ | .he => ⟨.ref ra_BY_RULE_half_even, kdct_of2 d_BY_RULE q_BY_RULE n_BY_RULE_half_even rfl, fun _ => .tup (.inr ⟨_, _, _, x_BY_RULE_half_even, rfl, rfl, by (show 2 ≤ sizeLine; decide), (show Vals [.ref ra_BY_RULE_half_even_0, .ref ra_BY_RULE_half_even_1] _ from .cons rfl (.cons rfl (.nil)))⟩) (.cons (.tup (.inr ⟨_, _, _, x_BY_RULE_half_even_0, rfl, rfl, by (show 2 ≤ sizeLine; decide), (show Vals [.ref ra_BY_RULE_half_even_0_0, .str "down"] _ from .cons rfl (.cons ⟨_, rfl⟩ (.nil)))⟩) (.cons (.tup (.inr ⟨_, _, _, x_BY_RULE_half_even_0_0, rfl, rfl, by (show 2 ≤ sizeLine; decide), (show Vals [.int 1, .int 2] _ from .cons ⟨_, rfl⟩ (.cons ⟨_, rfl⟩ (.nil)))⟩) (.cons (.int _) (.cons (.int _) (.nil)))) (.cons (.str _) (.nil)))) (.cons (.tup (.inr ⟨_, _, _, x_BY_RULE_half_even_1, rfl, rfl, by (show 2 ≤ sizeLine; decide), (show Vals [.ref ra_BY_RULE_half_even_1_0, .str "up"] _ from .cons rfl (.cons ⟨_, rfl⟩ (.nil)))⟩) (.cons (.tup (.inr ⟨_, _, _, x_BY_RULE_half_even_1_0, rfl, rfl, by (show 2 ≤ sizeLine; decide), (show Vals [.int 1, .int 2] _ from .cons ⟨_, rfl⟩ (.cons ⟨_, rfl⟩ (.nil)))⟩) (.cons (.int _) (.cons (.int _) (.nil)))) (.cons (.str _) (.nil)))) (.nil)))⟩ | .hu => ⟨.ref ra_BY_RULE_half_up, kdct_of2 d_BY_RULE q_BY_RULE n_BY_RULE_half_up rfl, fun _ => .tup (.inr ⟨_, _, _, x_BY_RULE_half_up, rfl, rfl, by (show 2 ≤ sizeLine; decide), (show Vals [.ref ra_BY_RULE_half_up_0, .ref ra_BY_RULE_half_up_1] _ from .cons rfl (.cons rfl (.nil)))⟩) (.cons (.tup (.inr ⟨_, _, _, x_BY_RULE_half_up_0, rfl, rfl, by (show 2 ≤ sizeLine; decide), (show Vals [.ref ra_BY_RULE_half_up_0_0, .str "up"] _ from .cons rfl (.cons ⟨_, rfl⟩ (.nil)))⟩) (.cons (.tup (.inr ⟨_, _, _, x_BY_RULE_half_up_0_0, rfl, rfl, by (show 2 ≤ sizeLine; decide), (show Vals [.int 1, .int 2] _ from .cons ⟨_, rfl⟩ (.cons ⟨_, rfl⟩ (.nil)))⟩) (.cons (.int _) (.cons (.int _) (.nil)))) (.cons (.str _) (.nil)))) (.cons (.tup (.inr ⟨_, _, _, x_BY_RULE_half_up_1, rfl, rfl, by (show 2 ≤ sizeLine; decide), (show Vals [.ref ra_BY_RULE_half_up_1_0, .str "up"] _ from .cons rfl (.cons ⟨_, rfl⟩ (.nil)))⟩) (.cons (.tup (.inr ⟨_, _, _, x_BY_RULE_half_up_1_0, rfl, rfl, by (show 2 ≤ sizeLine; decide), (show Vals [.int 1, .int 2] _ from .cons ⟨_, rfl⟩ (.cons ⟨_, rfl⟩ (.nil)))⟩) (.cons (.int _) (.cons (.int _) (.nil)))) (.cons (.str _) (.nil)))) (.nil)))⟩ | .od => ⟨.ref ra_BY_RULE_odd, kdct_of2 d_BY_RULE q_BY_RULE n_BY_RULE_odd rfl, fun _ => .tup (.inr ⟨_, _, _, x_BY_RULE_odd, rfl, rfl, by (show 2 ≤ sizeLine; decide), (show Vals [.ref ra_BY_RULE_odd_0, .ref ra_BY_RULE_odd_1] _ from .cons rfl (.cons rfl (.nil)))⟩) (.cons (.tup (.inr ⟨_, _, _, x_BY_RULE_odd_0, rfl, rfl, by (show 2 ≤ sizeLine; decide), (show Vals [.ref ra_BY_RULE_odd_0_0, .str "down"] _ from .cons rfl (.cons ⟨_, rfl⟩ (.nil)))⟩) (.cons (.tup (.inr ⟨_, _, _, x_BY_RULE_odd_0_0, rfl, rfl, by (show 2 ≤ sizeLine; decide), (show Vals [.int 0, .int 1] _ from .cons ⟨_, rfl⟩ (.cons ⟨_, rfl⟩ (.nil)))⟩) (.cons (.int _) (.cons (.int _) (.nil)))) (.cons (.str _) (.nil)))) (.cons (.tup (.inr ⟨_, _, _, x_BY_RULE_odd_1, rfl, rfl, by (show 2 ≤ sizeLine; decide), (show Vals [.ref ra_BY_RULE_odd_1_0, .str "up"] _ from .cons rfl (.cons ⟨_, rfl⟩ (.nil)))⟩) (.cons (.tup (.inr ⟨_, _, _, x_BY_RULE_odd_1_0, rfl, rfl, by (show 2 ≤ sizeLine; decide), (show Vals [.int 1, .int 1] _ from .cons ⟨_, rfl⟩ (.cons ⟨_, rfl⟩ (.nil)))⟩) (.cons (.int _) (.cons (.int _) (.nil)))) (.cons (.str _) (.nil)))) (.nil)))⟩ | .up => ⟨.ref ra_BY_RULE_up, kdct_of2 d_BY_RULE q_BY_RULE n_BY_RULE_up rfl, fun _ => .tup (.inr ⟨_, _, _, x_BY_RULE_up, rfl, rfl, by (show 2 ≤ sizeLine; decide), (show Vals [.ref ra_BY_RULE_up_0, .ref ra_BY_RULE_up_1] _ from .cons rfl (.cons rfl (.nil)))⟩) (.cons (.tup (.inr ⟨_, _, _, x_BY_RULE_up_0, rfl, rfl, by (show 2 ≤ sizeLine; decide), (show Vals [.ref ra_BY_RULE_up_0_0, .str "down"] _ from .cons rfl (.cons ⟨_, rfl⟩ (.nil)))⟩) (.cons (.tup (.inr ⟨_, _, _, x_BY_RULE_up_0_0, rfl, rfl, by (show 2 ≤ sizeLine; decide), (show Vals [.int 0, .int 1] _ from .cons ⟨_, rfl⟩ (.cons ⟨_, rfl⟩ (.nil)))⟩) (.cons (.int _) (.cons (.int _) (.nil)))) (.cons (.str _) (.nil)))) (.cons (.tup (.inr ⟨_, _, _, x_BY_RULE_up_1, rfl, rfl, by (show 2 ≤ sizeLine; decide), (show Vals [.ref ra_BY_RULE_up_1_0, .str "down"] _ from .cons rfl (.cons ⟨_, rfl⟩ (.nil)))⟩) (.cons (.tup (.inr ⟨_, _, _, x_BY_RULE_up_1_0, rfl, rfl, by (show 2 ≤ sizeLine; decide), (show Vals [.int 0, .int 1] _ from .cons ⟨_, rfl⟩ (.cons ⟨_, rfl⟩ (.nil)))⟩) (.cons (.int _) (.cons (.int _) (.nil)))) (.cons (.str _) (.nil)))) (.nil)))⟩,
    u_DOWN := _, w_DOWN := .str "down", c_DOWN := PySem.W.mg_of X G y_DOWN, v_DOWN := ⟨_, rfl⟩, r_DOWN := fun _ => .str _,
    u_MOST_STEPS := _, w_MOST_STEPS := .int 12, c_MOST_STEPS := PySem.W.mg_of X G y_MOST_STEPS, v_MOST_STEPS := ⟨_, rfl⟩, r_MOST_STEPS := fun _ => .int _,
    u_MOST_WIDTH := _, w_MOST_WIDTH := .int 100, c_MOST_WIDTH := PySem.W.mg_of X G y_MOST_WIDTH, v_MOST_WIDTH := ⟨_, rfl⟩, r_MOST_WIDTH := fun _ => .int _,
    u_PAIR := _, w_PAIR := .int 2, c_PAIR := PySem.W.mg_of X G y_PAIR, v_PAIR := ⟨_, rfl⟩, r_PAIR := fun _ => .int _,
    u_RULES := _, w_RULES := .ref ra_RULES, c_RULES := PySem.W.mg_of X G y_RULES, v_RULES := rfl, r_RULES := fun _ => .tup (.inr ⟨_, _, _, x_RULES, rfl, rfl, by (show 6 ≤ sizeLine; decide), (show Vals [.str "down", .str "half_down", .str "half_even", .str "half_up", .str "odd", .str "up"] _ from .cons ⟨_, rfl⟩ (.cons ⟨_, rfl⟩ (.cons ⟨_, rfl⟩ (.cons ⟨_, rfl⟩ (.cons ⟨_, rfl⟩ (.cons ⟨_, rfl⟩ (.nil)))))))⟩) (.cons (.str _) (.cons (.str _) (.cons (.str _) (.cons (.str _) (.cons (.str _) (.cons (.str _) (.nil))))))),
    u_UP := _, w_UP := .str "up", c_UP := PySem.W.mg_of X G y_UP, v_UP := ⟨_, rfl⟩, r_UP := fun _ => .str _ }
theorem all_mk {l : PySem.W.OpenLaw} {w : World} {K : Fg} {h : Heap} {mg : Str → Option Value} {fa : Addr} (X : K.In h) (G : h.Ns mainGlobals mg) (hfa : mg "law" = some (.ref fa)) {cT0 pT0 : Addr} {C_RoundingError : Addr} {C_DifferentWidths : Addr} {nm_DifferentWidths q_DifferentWidths : Str} {N_DifferentWidths : Addr} {bs_DifferentWidths bm_DifferentWidths : List Value} {sn_DifferentWidths : List Str} {sub_DifferentWidths : List Value} {ab_DifferentWidths : Bool} {col_DifferentWidths : Option Bool} {dd_DifferentWidths : Option Addr} {k0_DifferentWidths k1_DifferentWidths k2_DifferentWidths k3_DifferentWidths k5_DifferentWidths : Option Value} {C_InvalidChain : Addr} {nm_InvalidChain q_InvalidChain : Str} {N_InvalidChain : Addr} {bs_InvalidChain bm_InvalidChain : List Value} {sn_InvalidChain : List Str} {sub_InvalidChain : List Value} {ab_InvalidChain : Bool} {col_InvalidChain : Option Bool} {dd_InvalidChain : Option Addr} {k0_InvalidChain k1_InvalidChain k2_InvalidChain k3_InvalidChain k5_InvalidChain : Option Value} {f0 : Addr} {od0 an0 : Option Addr} {sl0 : Array (Option Value)} {oc0 kV0 dc0 pm0 cd0 ct0 : Value} {f1 : Addr} {od1 an1 : Option Addr} {sl1 : Array (Option Value)} {oc1 kV1 dc1 pm1 cd1 ct1 : Value} {f2 : Addr} {od2 an2 : Option Addr} {sl2 : Array (Option Value)} {oc2 kV2 dc2 pm2 cd2 ct2 : Value} {f3 : Addr} {od3 an3 : Option Addr} {sl3 : Array (Option Value)} {oc3 kV3 dc3 pm3 cd3 ct3 : Value} {f4 : Addr} {od4 an4 : Option Addr} {sl4 : Array (Option Value)} {oc4 kV4 dc4 pm4 cd4 ct4 : Value} {f5 : Addr} {od5 an5 : Option Addr} {sl5 : Array (Option Value)} {oc5 kV5 dc5 pm5 cd5 ct5 : Value} {f6 : Addr} {od6 an6 : Option Addr} {sl6 : Array (Option Value)} {oc6 kV6 dc6 pm6 cd6 ct6 : Value} {f7 : Addr} {od7 an7 : Option Addr} {sl7 : Array (Option Value)} {oc7 kV7 dc7 pm7 cd7 ct7 : Value} {f8 : Addr} {od8 an8 : Option Addr} {sl8 : Array (Option Value)} {oc8 kV8 dc8 pm8 cd8 ct8 : Value} {f9 : Addr} {od9 an9 : Option Addr} {sl9 : Array (Option Value)} {oc9 kV9 dc9 pm9 cd9 ct9 : Value} {f10 : Addr} {od10 an10 : Option Addr} {sl10 : Array (Option Value)} {oc10 kV10 dc10 pm10 cd10 ct10 : Value} {f11 : Addr} {od11 an11 : Option Addr} {sl11 : Array (Option Value)} {oc11 kV11 dc11 pm11 cd11 ct11 : Value} {f12 : Addr} {od12 an12 : Option Addr} {sl12 : Array (Option Value)} {oc12 kV12 dc12 pm12 cd12 ct12 : Value} {f13 : Addr} {od13 an13 : Option Addr} {sl13 : Array (Option Value)} {oc13 kV13 dc13 pm13 cd13 ct13 : Value} {f14 : Addr} {od14 an14 : Option Addr} {sl14 : Array (Option Value)} {oc14 kV14 dc14 pm14 cd14 ct14 : Value} {f15 : Addr} {od15 an15 : Option Addr} {sl15 : Array (Option Value)} {oc15 kV15 dc15 pm15 cd15 ct15 : Value} {f16 : Addr} {od16 an16 : Option Addr} {sl16 : Array (Option Value)} {oc16 kV16 dc16 pm16 cd16 ct16 : Value} {f17 : Addr} {od17 an17 : Option Addr} {sl17 : Array (Option Value)} {oc17 kV17 dc17 pm17 cd17 ct17 : Value} {f18 : Addr} {od18 an18 : Option Addr} {sl18 : Array (Option Value)} {oc18 kV18 dc18 pm18 cd18 ct18 : Value} {f19 : Addr} {od19 an19 : Option Addr} {sl19 : Array (Option Value)} {oc19 kV19 dc19 pm19 cd19 ct19 : Value} {f20 : Addr} {od20 an20 : Option Addr} {sl20 : Array (Option Value)} {oc20 kV20 dc20 pm20 cd20 ct20 : Value} {f21 : Addr} {od21 an21 : Option Addr} {sl21 : Array (Option Value)} {oc21 kV21 dc21 pm21 cd21 ct21 : Value} {f22 : Addr} {od22 an22 : Option Addr} {sl22 : Array (Option Value)} {oc22 kV22 dc22 pm22 cd22 ct22 : Value} {f23 : Addr} {od23 an23 : Option Addr} {sl23 : Array (Option Value)} {oc23 kV23 dc23 pm23 cd23 ct23 : Value} {f24 : Addr} {od24 an24 : Option Addr} {sl24 : Array (Option Value)} {oc24 kV24 dc24 pm24 cd24 ct24 : Value} {f25 : Addr} {od25 an25 : Option Addr} {sl25 : Array (Option Value)} {oc25 kV25 dc25 pm25 cd25 ct25 : Value} {f26 : Addr} {od26 an26 : Option Addr} {sl26 : Array (Option Value)} {oc26 kV26 dc26 pm26 cd26 ct26 : Value} {f27 : Addr} {od27 an27 : Option Addr} {sl27 : Array (Option Value)} {oc27 kV27 dc27 pm27 cd27 ct27 : Value} {f28 : Addr} {od28 an28 : Option Addr} {sl28 : Array (Option Value)} {oc28 kV28 dc28 pm28 cd28 ct28 : Value} {f29 : Addr} {od29 an29 : Option Addr} {sl29 : Array (Option Value)} {oc29 kV29 dc29 pm29 cd29 ct29 : Value} {f30 : Addr} {od30 an30 : Option Addr} {sl30 : Array (Option Value)} {oc30 kV30 dc30 pm30 cd30 ct30 : Value} {f31 : Addr} {od31 an31 : Option Addr} {sl31 : Array (Option Value)} {oc31 kV31 dc31 pm31 cd31 ct31 : Value} {f32 : Addr} {od32 an32 : Option Addr} {sl32 : Array (Option Value)} {oc32 kV32 dc32 pm32 cd32 ct32 : Value} {f33 : Addr} {od33 an33 : Option Addr} {sl33 : Array (Option Value)} {oc33 kV33 dc33 pm33 cd33 ct33 : Value} {f34 : Addr} {od34 an34 : Option Addr} {sl34 : Array (Option Value)} {oc34 kV34 dc34 pm34 cd34 ct34 : Value} {ra_BY_RULE : Addr} {es_BY_RULE : Array DictEntry} {en_BY_RULE : Nat} {tk_BY_RULE_down_0_0_0 : Tok} {tk_BY_RULE_down_0_0_1 : Tok} {ra_BY_RULE_down_0_0 : Addr} {rd_BY_RULE_down_0_0 : Option Addr} {rn_BY_RULE_down_0_0 : Nat} {rs_BY_RULE_down_0_0 : Array (Option Value)} {tk_BY_RULE_down_0_1 : Tok} {ra_BY_RULE_down_0 : Addr} {rd_BY_RULE_down_0 : Option Addr} {rn_BY_RULE_down_0 : Nat} {rs_BY_RULE_down_0 : Array (Option Value)} {tk_BY_RULE_down_1_0_0 : Tok} {tk_BY_RULE_down_1_0_1 : Tok} {ra_BY_RULE_down_1_0 : Addr} {rd_BY_RULE_down_1_0 : Option Addr} {rn_BY_RULE_down_1_0 : Nat} {rs_BY_RULE_down_1_0 : Array (Option Value)} {tk_BY_RULE_down_1_1 : Tok} {ra_BY_RULE_down_1 : Addr} {rd_BY_RULE_down_1 : Option Addr} {rn_BY_RULE_down_1 : Nat} {rs_BY_RULE_down_1 : Array (Option Value)} {ra_BY_RULE_down : Addr} {rd_BY_RULE_down : Option Addr} {rn_BY_RULE_down : Nat} {rs_BY_RULE_down : Array (Option Value)} {tk_BY_RULE_half_down_0_0_0 : Tok} {tk_BY_RULE_half_down_0_0_1 : Tok} {ra_BY_RULE_half_down_0_0 : Addr} {rd_BY_RULE_half_down_0_0 : Option Addr} {rn_BY_RULE_half_down_0_0 : Nat} {rs_BY_RULE_half_down_0_0 : Array (Option Value)} {tk_BY_RULE_half_down_0_1 : Tok} {ra_BY_RULE_half_down_0 : Addr} {rd_BY_RULE_half_down_0 : Option Addr} {rn_BY_RULE_half_down_0 : Nat} {rs_BY_RULE_half_down_0 : Array (Option Value)} {tk_BY_RULE_half_down_1_0_0 : Tok} {tk_BY_RULE_half_down_1_0_1 : Tok} {ra_BY_RULE_half_down_1_0 : Addr} {rd_BY_RULE_half_down_1_0 : Option Addr} {rn_BY_RULE_half_down_1_0 : Nat} {rs_BY_RULE_half_down_1_0 : Array (Option Value)} {tk_BY_RULE_half_down_1_1 : Tok} {ra_BY_RULE_half_down_1 : Addr} {rd_BY_RULE_half_down_1 : Option Addr} {rn_BY_RULE_half_down_1 : Nat} {rs_BY_RULE_half_down_1 : Array (Option Value)} {ra_BY_RULE_half_down : Addr} {rd_BY_RULE_half_down : Option Addr} {rn_BY_RULE_half_down : Nat} {rs_BY_RULE_half_down : Array (Option Value)} {tk_BY_RULE_half_even_0_0_0 : Tok} {tk_BY_RULE_half_even_0_0_1 : Tok} {ra_BY_RULE_half_even_0_0 : Addr} {rd_BY_RULE_half_even_0_0 : Option Addr} {rn_BY_RULE_half_even_0_0 : Nat} {rs_BY_RULE_half_even_0_0 : Array (Option Value)} {tk_BY_RULE_half_even_0_1 : Tok} {ra_BY_RULE_half_even_0 : Addr} {rd_BY_RULE_half_even_0 : Option Addr} {rn_BY_RULE_half_even_0 : Nat} {rs_BY_RULE_half_even_0 : Array (Option Value)} {tk_BY_RULE_half_even_1_0_0 : Tok} {tk_BY_RULE_half_even_1_0_1 : Tok} {ra_BY_RULE_half_even_1_0 : Addr} {rd_BY_RULE_half_even_1_0 : Option Addr} {rn_BY_RULE_half_even_1_0 : Nat} {rs_BY_RULE_half_even_1_0 : Array (Option Value)} {tk_BY_RULE_half_even_1_1 : Tok} {ra_BY_RULE_half_even_1 : Addr} {rd_BY_RULE_half_even_1 : Option Addr} {rn_BY_RULE_half_even_1 : Nat} {rs_BY_RULE_half_even_1 : Array (Option Value)} {ra_BY_RULE_half_even : Addr} {rd_BY_RULE_half_even : Option Addr} {rn_BY_RULE_half_even : Nat} {rs_BY_RULE_half_even : Array (Option Value)} {tk_BY_RULE_half_up_0_0_0 : Tok} {tk_BY_RULE_half_up_0_0_1 : Tok} {ra_BY_RULE_half_up_0_0 : Addr} {rd_BY_RULE_half_up_0_0 : Option Addr} {rn_BY_RULE_half_up_0_0 : Nat} {rs_BY_RULE_half_up_0_0 : Array (Option Value)} {tk_BY_RULE_half_up_0_1 : Tok} {ra_BY_RULE_half_up_0 : Addr} {rd_BY_RULE_half_up_0 : Option Addr} {rn_BY_RULE_half_up_0 : Nat} {rs_BY_RULE_half_up_0 : Array (Option Value)} {tk_BY_RULE_half_up_1_0_0 : Tok} {tk_BY_RULE_half_up_1_0_1 : Tok} {ra_BY_RULE_half_up_1_0 : Addr} {rd_BY_RULE_half_up_1_0 : Option Addr} {rn_BY_RULE_half_up_1_0 : Nat} {rs_BY_RULE_half_up_1_0 : Array (Option Value)} {tk_BY_RULE_half_up_1_1 : Tok} {ra_BY_RULE_half_up_1 : Addr} {rd_BY_RULE_half_up_1 : Option Addr} {rn_BY_RULE_half_up_1 : Nat} {rs_BY_RULE_half_up_1 : Array (Option Value)} {ra_BY_RULE_half_up : Addr} {rd_BY_RULE_half_up : Option Addr} {rn_BY_RULE_half_up : Nat} {rs_BY_RULE_half_up : Array (Option Value)} {tk_BY_RULE_odd_0_0_0 : Tok} {tk_BY_RULE_odd_0_0_1 : Tok} {ra_BY_RULE_odd_0_0 : Addr} {rd_BY_RULE_odd_0_0 : Option Addr} {rn_BY_RULE_odd_0_0 : Nat} {rs_BY_RULE_odd_0_0 : Array (Option Value)} {tk_BY_RULE_odd_0_1 : Tok} {ra_BY_RULE_odd_0 : Addr} {rd_BY_RULE_odd_0 : Option Addr} {rn_BY_RULE_odd_0 : Nat} {rs_BY_RULE_odd_0 : Array (Option Value)} {tk_BY_RULE_odd_1_0_0 : Tok} {tk_BY_RULE_odd_1_0_1 : Tok} {ra_BY_RULE_odd_1_0 : Addr} {rd_BY_RULE_odd_1_0 : Option Addr} {rn_BY_RULE_odd_1_0 : Nat} {rs_BY_RULE_odd_1_0 : Array (Option Value)} {tk_BY_RULE_odd_1_1 : Tok} {ra_BY_RULE_odd_1 : Addr} {rd_BY_RULE_odd_1 : Option Addr} {rn_BY_RULE_odd_1 : Nat} {rs_BY_RULE_odd_1 : Array (Option Value)} {ra_BY_RULE_odd : Addr} {rd_BY_RULE_odd : Option Addr} {rn_BY_RULE_odd : Nat} {rs_BY_RULE_odd : Array (Option Value)} {tk_BY_RULE_up_0_0_0 : Tok} {tk_BY_RULE_up_0_0_1 : Tok} {ra_BY_RULE_up_0_0 : Addr} {rd_BY_RULE_up_0_0 : Option Addr} {rn_BY_RULE_up_0_0 : Nat} {rs_BY_RULE_up_0_0 : Array (Option Value)} {tk_BY_RULE_up_0_1 : Tok} {ra_BY_RULE_up_0 : Addr} {rd_BY_RULE_up_0 : Option Addr} {rn_BY_RULE_up_0 : Nat} {rs_BY_RULE_up_0 : Array (Option Value)} {tk_BY_RULE_up_1_0_0 : Tok} {tk_BY_RULE_up_1_0_1 : Tok} {ra_BY_RULE_up_1_0 : Addr} {rd_BY_RULE_up_1_0 : Option Addr} {rn_BY_RULE_up_1_0 : Nat} {rs_BY_RULE_up_1_0 : Array (Option Value)} {tk_BY_RULE_up_1_1 : Tok} {ra_BY_RULE_up_1 : Addr} {rd_BY_RULE_up_1 : Option Addr} {rn_BY_RULE_up_1 : Nat} {rs_BY_RULE_up_1 : Array (Option Value)} {ra_BY_RULE_up : Addr} {rd_BY_RULE_up : Option Addr} {rn_BY_RULE_up : Nat} {rs_BY_RULE_up : Array (Option Value)} {tk_DOWN : Tok} {tk_MOST_STEPS : Tok} {tk_MOST_WIDTH : Tok} {tk_PAIR : Tok} {tk_RULES_0 : Tok} {tk_RULES_1 : Tok} {tk_RULES_2 : Tok} {tk_RULES_3 : Tok} {tk_RULES_4 : Tok} {tk_RULES_5 : Tok} {ra_RULES : Addr} {rd_RULES : Option Addr} {rn_RULES : Nat} {rs_RULES : Array (Option Value)} {tk_UP : Tok}
    (a0 : PySem.W.findIn K (.ref C_DifferentWidths) "__init__" = some (some (.ref f0))) (i0 : PySem.W.isFn K (.ref f0) = true)
    (l0 : K.lookup f0 = some ⟨oc0, od0, .func (PySem.W.fnOf "__init__" "DifferentWidths.__init__" (defArgs st_DifferentWidths_init) (defBody st_DifferentWidths_init) (defScope st_DifferentWidths_init) .none kV0 dc0 pm0 an0 cd0 ct0), sl0⟩) (c0 : PySem.W.codeIn K cd0 "DifferentWidths.__init__" = true) (k0 : PySem.W.keepIn K (.ref f0) = true)
    (a1 : PySem.W.findIn K (.ref C_InvalidChain) "__init__" = some (some (.ref f1))) (i1 : PySem.W.isFn K (.ref f1) = true)
    (l1 : K.lookup f1 = some ⟨oc1, od1, .func (PySem.W.fnOf "__init__" "InvalidChain.__init__" (defArgs st_InvalidChain_init) (defBody st_InvalidChain_init) (defScope st_InvalidChain_init) .none kV1 dc1 pm1 an1 cd1 ct1), sl1⟩) (c1 : PySem.W.codeIn K cd1 "InvalidChain.__init__" = true) (k1 : PySem.W.keepIn K (.ref f1) = true)
    (a2 : PySem.W.nsIn K mainGlobals "is_int" = some (some (.ref f2)))
    (l2 : K.lookup f2 = some ⟨oc2, od2, .func (PySem.W.fnOf "is_int" "is_int" (defArgs st_is_int) (defBody st_is_int) (defScope st_is_int) .none kV2 dc2 pm2 an2 cd2 ct2), sl2⟩) (c2 : PySem.W.codeIn K cd2 "is_int" = true) (k2 : PySem.W.keepIn K (.ref f2) = true)
    (a3 : PySem.W.nsIn K mainGlobals "common_divisor" = some (some (.ref f3)))
    (l3 : K.lookup f3 = some ⟨oc3, od3, .func (PySem.W.fnOf "common_divisor" "common_divisor" (defArgs st_common_divisor) (defBody st_common_divisor) (defScope st_common_divisor) .none kV3 dc3 pm3 an3 cd3 ct3), sl3⟩) (c3 : PySem.W.codeIn K cd3 "common_divisor" = true) (k3 : PySem.W.keepIn K (.ref f3) = true)
    (a4 : PySem.W.nsIn K mainGlobals "lowest" = some (some (.ref f4)))
    (l4 : K.lookup f4 = some ⟨oc4, od4, .func (PySem.W.fnOf "lowest" "lowest" (defArgs st_lowest) (defBody st_lowest) (defScope st_lowest) .none kV4 dc4 pm4 an4 cd4 ct4), sl4⟩) (c4 : PySem.W.codeIn K cd4 "lowest" = true) (k4 : PySem.W.keepIn K (.ref f4) = true)
    (a5 : PySem.W.nsIn K mainGlobals "is_width" = some (some (.ref f5)))
    (l5 : K.lookup f5 = some ⟨oc5, od5, .func (PySem.W.fnOf "is_width" "is_width" (defArgs st_is_width) (defBody st_is_width) (defScope st_is_width) .none kV5 dc5 pm5 an5 cd5 ct5), sl5⟩) (c5 : PySem.W.codeIn K cd5 "is_width" = true) (k5 : PySem.W.keepIn K (.ref f5) = true)
    (a6 : PySem.W.nsIn K mainGlobals "is_rule" = some (some (.ref f6)))
    (l6 : K.lookup f6 = some ⟨oc6, od6, .func (PySem.W.fnOf "is_rule" "is_rule" (defArgs st_is_rule) (defBody st_is_rule) (defScope st_is_rule) .none kV6 dc6 pm6 an6 cd6 ct6), sl6⟩) (c6 : PySem.W.codeIn K cd6 "is_rule" = true) (k6 : PySem.W.keepIn K (.ref f6) = true)
    (a7 : PySem.W.nsIn K mainGlobals "is_step" = some (some (.ref f7)))
    (l7 : K.lookup f7 = some ⟨oc7, od7, .func (PySem.W.fnOf "is_step" "is_step" (defArgs st_is_step) (defBody st_is_step) (defScope st_is_step) .none kV7 dc7 pm7 an7 cd7 ct7), sl7⟩) (c7 : PySem.W.codeIn K cd7 "is_step" = true) (k7 : PySem.W.keepIn K (.ref f7) = true)
    (a8 : PySem.W.nsIn K mainGlobals "is_chain" = some (some (.ref f8)))
    (l8 : K.lookup f8 = some ⟨oc8, od8, .func (PySem.W.fnOf "is_chain" "is_chain" (defArgs st_is_chain) (defBody st_is_chain) (defScope st_is_chain) .none kV8 dc8 pm8 an8 cd8 ct8), sl8⟩) (c8 : PySem.W.codeIn K cd8 "is_chain" = true) (k8 : PySem.W.keepIn K (.ref f8) = true)
    (a9 : PySem.W.nsIn K mainGlobals "check_chain" = some (some (.ref f9)))
    (l9 : K.lookup f9 = some ⟨oc9, od9, .func (PySem.W.fnOf "check_chain" "check_chain" (defArgs st_check_chain) (defBody st_check_chain) (defScope st_check_chain) .none kV9 dc9 pm9 an9 cd9 ct9), sl9⟩) (c9 : PySem.W.codeIn K cd9 "check_chain" = true) (k9 : PySem.W.keepIn K (.ref f9) = true)
    (a10 : PySem.W.nsIn K mainGlobals "last_width" = some (some (.ref f10)))
    (l10 : K.lookup f10 = some ⟨oc10, od10, .func (PySem.W.fnOf "last_width" "last_width" (defArgs st_last_width) (defBody st_last_width) (defScope st_last_width) .none kV10 dc10 pm10 an10 cd10 ct10), sl10⟩) (c10 : PySem.W.codeIn K cd10 "last_width" = true) (k10 : PySem.W.keepIn K (.ref f10) = true)
    (a11 : PySem.W.nsIn K mainGlobals "trimmed" = some (some (.ref f11)))
    (l11 : K.lookup f11 = some ⟨oc11, od11, .func (PySem.W.fnOf "trimmed" "trimmed" (defArgs st_trimmed) (defBody st_trimmed) (defScope st_trimmed) .none kV11 dc11 pm11 an11 cd11 ct11), sl11⟩) (c11 : PySem.W.codeIn K cd11 "trimmed" = true) (k11 : PySem.W.keepIn K (.ref f11) = true)
    (a12 : PySem.W.nsIn K mainGlobals "last_down" = some (some (.ref f12)))
    (l12 : K.lookup f12 = some ⟨oc12, od12, .func (PySem.W.fnOf "last_down" "last_down" (defArgs st_last_down) (defBody st_last_down) (defScope st_last_down) .none kV12 dc12 pm12 an12 cd12 ct12), sl12⟩) (c12 : PySem.W.codeIn K cd12 "last_down" = true) (k12 : PySem.W.keepIn K (.ref f12) = true)
    (a13 : PySem.W.nsIn K mainGlobals "combined" = some (some (.ref f13)))
    (l13 : K.lookup f13 = some ⟨oc13, od13, .func (PySem.W.fnOf "combined" "combined" (defArgs st_combined) (defBody st_combined) (defScope st_combined) .none kV13 dc13 pm13 an13 cd13 ct13), sl13⟩) (c13 : PySem.W.codeIn K cd13 "combined" = true) (k13 : PySem.W.keepIn K (.ref f13) = true)
    (a14 : PySem.W.nsIn K mainGlobals "thresholds" = some (some (.ref f14)))
    (l14 : K.lookup f14 = some ⟨oc14, od14, .func (PySem.W.fnOf "thresholds" "thresholds" (defArgs st_thresholds) (defBody st_thresholds) (defScope st_thresholds) .none kV14 dc14 pm14 an14 cd14 ct14), sl14⟩) (c14 : PySem.W.codeIn K cd14 "thresholds" = true) (k14 : PySem.W.keepIn K (.ref f14) = true)
    (a15 : PySem.W.nsIn K mainGlobals "check_chains" = some (some (.ref f15)))
    (l15 : K.lookup f15 = some ⟨oc15, od15, .func (PySem.W.fnOf "check_chains" "check_chains" (defArgs st_check_chains) (defBody st_check_chains) (defScope st_check_chains) .none kV15 dc15 pm15 an15 cd15 ct15), sl15⟩) (c15 : PySem.W.codeIn K cd15 "check_chains" = true) (k15 : PySem.W.keepIn K (.ref f15) = true)
    (a16 : PySem.W.nsIn K mainGlobals "same" = some (some (.ref f16)))
    (l16 : K.lookup f16 = some ⟨oc16, od16, .func (PySem.W.fnOf "same" "same" (defArgs st_same) (defBody st_same) (defScope st_same) .none kV16 dc16 pm16 an16 cd16 ct16), sl16⟩) (c16 : PySem.W.codeIn K cd16 "same" = true) (k16 : PySem.W.keepIn K (.ref f16) = true)
    (a17 : PySem.W.nsIn K mainGlobals "is_before" = some (some (.ref f17)))
    (l17 : K.lookup f17 = some ⟨oc17, od17, .func (PySem.W.fnOf "is_before" "is_before" (defArgs st_is_before) (defBody st_is_before) (defScope st_is_before) .none kV17 dc17 pm17 an17 cd17 ct17), sl17⟩) (c17 : PySem.W.codeIn K cd17 "is_before" = true) (k17 : PySem.W.keepIn K (.ref f17) = true)
    (a18 : PySem.W.nsIn K mainGlobals "zone" = some (some (.ref f18)))
    (l18 : K.lookup f18 = some ⟨oc18, od18, .func (PySem.W.fnOf "zone" "zone" (defArgs st_zone) (defBody st_zone) (defScope st_zone) .none kV18 dc18 pm18 an18 cd18 ct18), sl18⟩) (c18 : PySem.W.codeIn K cd18 "zone" = true) (k18 : PySem.W.keepIn K (.ref f18) = true)
    (a19 : PySem.W.nsIn K mainGlobals "zones" = some (some (.ref f19)))
    (l19 : K.lookup f19 = some ⟨oc19, od19, .func (PySem.W.fnOf "zones" "zones" (defArgs st_zones) (defBody st_zones) (defScope st_zones) .none kV19 dc19 pm19 an19 cd19 ct19), sl19⟩) (c19 : PySem.W.codeIn K cd19 "zones" = true) (k19 : PySem.W.keepIn K (.ref f19) = true)
    (a20 : PySem.W.nsIn K mainGlobals "first_part" = some (some (.ref f20)))
    (l20 : K.lookup f20 = some ⟨oc20, od20, .func (PySem.W.fnOf "first_part" "first_part" (defArgs st_first_part) (defBody st_first_part) (defScope st_first_part) .none kV20 dc20 pm20 an20 cd20 ct20), sl20⟩) (c20 : PySem.W.codeIn K cd20 "first_part" = true) (k20 : PySem.W.keepIn K (.ref f20) = true)
    (a21 : PySem.W.nsIn K mainGlobals "simplest_difference" = some (some (.ref f21)))
    (l21 : K.lookup f21 = some ⟨oc21, od21, .func (PySem.W.fnOf "simplest_difference" "simplest_difference" (defArgs st_simplest_difference) (defBody st_simplest_difference) (defScope st_simplest_difference) .none kV21 dc21 pm21 an21 cd21 ct21), sl21⟩) (c21 : PySem.W.codeIn K cd21 "simplest_difference" = true) (k21 : PySem.W.keepIn K (.ref f21) = true)
    (a22 : PySem.W.nsIn K mainGlobals "_law_source" = some (some (.ref f22)))
    (l22 : K.lookup f22 = some ⟨oc22, od22, .func (PySem.W.fnOf "_law_source" "_law_source" (defArgs st__law_source) (defBody st__law_source) (defScope st__law_source) .none kV22 dc22 pm22 an22 cd22 ct22), sl22⟩) (c22 : PySem.W.codeIn K cd22 "_law_source" = true) (k22 : PySem.W.keepIn K (.ref f22) = true)
    (a23 : PySem.W.nsIn K mainGlobals "_law_draw" = some (some (.ref f23)))
    (l23 : K.lookup f23 = some ⟨oc23, od23, .func (PySem.W.fnOf "_law_draw" "_law_draw" (defArgs st__law_draw) (defBody st__law_draw) (defScope st__law_draw) .none kV23 dc23 pm23 an23 cd23 ct23), sl23⟩) (c23 : PySem.W.codeIn K cd23 "_law_draw" = true) (k23 : PySem.W.keepIn K (.ref f23) = true)
    (a24 : PySem.W.nsIn K mainGlobals "_law_pick" = some (some (.ref f24)))
    (l24 : K.lookup f24 = some ⟨oc24, od24, .func (PySem.W.fnOf "_law_pick" "_law_pick" (defArgs st__law_pick) (defBody st__law_pick) (defScope st__law_pick) .none kV24 dc24 pm24 an24 cd24 ct24), sl24⟩) (c24 : PySem.W.codeIn K cd24 "_law_pick" = true) (k24 : PySem.W.keepIn K (.ref f24) = true)
    (a25 : PySem.W.nsIn K mainGlobals "_law_rule" = some (some (.ref f25)))
    (l25 : K.lookup f25 = some ⟨oc25, od25, .func (PySem.W.fnOf "_law_rule" "_law_rule" (defArgs st__law_rule) (defBody st__law_rule) (defScope st__law_rule) .none kV25 dc25 pm25 an25 cd25 ct25), sl25⟩) (c25 : PySem.W.codeIn K cd25 "_law_rule" = true) (k25 : PySem.W.keepIn K (.ref f25) = true)
    (a26 : PySem.W.nsIn K mainGlobals "_law_chain" = some (some (.ref f26)))
    (l26 : K.lookup f26 = some ⟨oc26, od26, .func (PySem.W.fnOf "_law_chain" "_law_chain" (defArgs st__law_chain) (defBody st__law_chain) (defScope st__law_chain) .none kV26 dc26 pm26 an26 cd26 ct26), sl26⟩) (c26 : PySem.W.codeIn K cd26 "_law_chain" = true) (k26 : PySem.W.keepIn K (.ref f26) = true)
    (a27 : PySem.W.nsIn K mainGlobals "_law_is_count" = some (some (.ref f27)))
    (l27 : K.lookup f27 = some ⟨oc27, od27, .func (PySem.W.fnOf "_law_is_count" "_law_is_count" (defArgs st__law_is_count) (defBody st__law_is_count) (defScope st__law_is_count) .none kV27 dc27 pm27 an27 cd27 ct27), sl27⟩) (c27 : PySem.W.codeIn K cd27 "_law_is_count" = true) (k27 : PySem.W.keepIn K (.ref f27) = true)
    (a28 : PySem.W.nsIn K mainGlobals "_law_is_chain" = some (some (.ref f28)))
    (l28 : K.lookup f28 = some ⟨oc28, od28, .func (PySem.W.fnOf "_law_is_chain" "_law_is_chain" (defArgs st__law_is_chain) (defBody st__law_is_chain) (defScope st__law_is_chain) .none kV28 dc28 pm28 an28 cd28 ct28), sl28⟩) (c28 : PySem.W.codeIn K cd28 "_law_is_chain" = true) (k28 : PySem.W.keepIn K (.ref f28) = true)
    (a29 : PySem.W.nsIn K mainGlobals "_law_least" = some (some (.ref f29)))
    (l29 : K.lookup f29 = some ⟨oc29, od29, .func (PySem.W.fnOf "_law_least" "_law_least" (defArgs st__law_least) (defBody st__law_least) (defScope st__law_least) .none kV29 dc29 pm29 an29 cd29 ct29), sl29⟩) (c29 : PySem.W.codeIn K cd29 "_law_least" = true) (k29 : PySem.W.keepIn K (.ref f29) = true)
    (a30 : PySem.W.nsIn K mainGlobals "_law_odd_value" = some (some (.ref f30)))
    (l30 : K.lookup f30 = some ⟨oc30, od30, .func (PySem.W.fnOf "_law_odd_value" "_law_odd_value" (defArgs st__law_odd_value) (defBody st__law_odd_value) (defScope st__law_odd_value) .none kV30 dc30 pm30 an30 cd30 ct30), sl30⟩) (c30 : PySem.W.codeIn K cd30 "_law_odd_value" = true) (k30 : PySem.W.keepIn K (.ref f30) = true)
    (a31 : PySem.W.nsIn K mainGlobals "_law_value" = some (some (.ref f31)))
    (l31 : K.lookup f31 = some ⟨oc31, od31, .func (PySem.W.fnOf "_law_value" "_law_value" (defArgs st__law_value) (defBody st__law_value) (defScope st__law_value) .none kV31 dc31 pm31 an31 cd31 ct31), sl31⟩) (c31 : PySem.W.codeIn K cd31 "_law_value" = true) (k31 : PySem.W.keepIn K (.ref f31) = true)
    (a32 : PySem.W.nsIn K mainGlobals "_law_caught" = some (some (.ref f32)))
    (l32 : K.lookup f32 = some ⟨oc32, od32, .func (PySem.W.fnOf "_law_caught" "_law_caught" (defArgs st__law_caught) (defBody st__law_caught) (defScope st__law_caught) .none kV32 dc32 pm32 an32 cd32 ct32), sl32⟩) (c32 : PySem.W.codeIn K cd32 "_law_caught" = true) (k32 : PySem.W.keepIn K (.ref f32) = true)
    (a33 : PySem.W.nsIn K mainGlobals "_law_due" = some (some (.ref f33)))
    (l33 : K.lookup f33 = some ⟨oc33, od33, .func (PySem.W.fnOf "_law_due" "_law_due" (defArgs st__law_due) (defBody st__law_due) (defScope st__law_due) .none kV33 dc33 pm33 an33 cd33 ct33), sl33⟩) (c33 : PySem.W.codeIn K cd33 "_law_due" = true) (k33 : PySem.W.keepIn K (.ref f33) = true)
    (a34 : PySem.W.nsIn K mainGlobals "law" = some (some (.ref f34)))
    (l34 : K.lookup f34 = some ⟨oc34, od34, .func (PySem.W.fnOf "law" "law" (defArgs st_law) (defBody st_law) (defScope st_law) .none kV34 dc34 pm34 an34 cd34 ct34), sl34⟩) (c34 : PySem.W.codeIn K cd34 "law" = true) (k34 : PySem.W.keepIn K (.ref f34) = true)
    (z_abs : PySem.W.nsIn K mainGlobals "abs" = some none)
    (z_all : PySem.W.nsIn K mainGlobals "all" = some none)
    (z_bool : PySem.W.nsIn K mainGlobals "bool" = some none)
    (z_enumerate : PySem.W.nsIn K mainGlobals "enumerate" = some none)
    (z_int : PySem.W.nsIn K mainGlobals "int" = some none)
    (z_isinstance : PySem.W.nsIn K mainGlobals "isinstance" = some none)
    (z_len : PySem.W.nsIn K mainGlobals "len" = some none)
    (z_list : PySem.W.nsIn K mainGlobals "list" = some none)
    (z_min : PySem.W.nsIn K mainGlobals "min" = some none)
    (z_range : PySem.W.nsIn K mainGlobals "range" = some none)
    (z_repr : PySem.W.nsIn K mainGlobals "repr" = some none)
    (z_sorted : PySem.W.nsIn K mainGlobals "sorted" = some none)
    (z_str : PySem.W.nsIn K mainGlobals "str" = some none)
    (z_tuple : PySem.W.nsIn K mainGlobals "tuple" = some none)
    (z_zip : PySem.W.nsIn K mainGlobals "zip" = some none)
    (y_BY_RULE : PySem.W.nsIn K mainGlobals "BY_RULE" = some (some (.ref ra_BY_RULE))) (d_BY_RULE : K.lookup ra_BY_RULE = some ⟨.type "dict", none, .dict es_BY_RULE en_BY_RULE, #[]⟩) (q_BY_RULE : PySem.W.KeysLit w.params es_BY_RULE.toList)
    (n_BY_RULE_down : PySem.W.nsIn K ra_BY_RULE "down" = some (some (.ref ra_BY_RULE_down)))
    (x_BY_RULE_down : K.lookup ra_BY_RULE_down = some ⟨.type "tuple", rd_BY_RULE_down, .seq #[.ref ra_BY_RULE_down_0, .ref ra_BY_RULE_down_1] rn_BY_RULE_down, rs_BY_RULE_down⟩)
    (x_BY_RULE_down_0 : K.lookup ra_BY_RULE_down_0 = some ⟨.type "tuple", rd_BY_RULE_down_0, .seq #[.ref ra_BY_RULE_down_0_0, .str "up" tk_BY_RULE_down_0_1] rn_BY_RULE_down_0, rs_BY_RULE_down_0⟩)
    (x_BY_RULE_down_0_0 : K.lookup ra_BY_RULE_down_0_0 = some ⟨.type "tuple", rd_BY_RULE_down_0_0, .seq #[.int 1 tk_BY_RULE_down_0_0_0, .int 1 tk_BY_RULE_down_0_0_1] rn_BY_RULE_down_0_0, rs_BY_RULE_down_0_0⟩)
    (x_BY_RULE_down_1 : K.lookup ra_BY_RULE_down_1 = some ⟨.type "tuple", rd_BY_RULE_down_1, .seq #[.ref ra_BY_RULE_down_1_0, .str "up" tk_BY_RULE_down_1_1] rn_BY_RULE_down_1, rs_BY_RULE_down_1⟩)
    (x_BY_RULE_down_1_0 : K.lookup ra_BY_RULE_down_1_0 = some ⟨.type "tuple", rd_BY_RULE_down_1_0, .seq #[.int 1 tk_BY_RULE_down_1_0_0, .int 1 tk_BY_RULE_down_1_0_1] rn_BY_RULE_down_1_0, rs_BY_RULE_down_1_0⟩)
    (n_BY_RULE_half_down : PySem.W.nsIn K ra_BY_RULE "half_down" = some (some (.ref ra_BY_RULE_half_down)))
    (x_BY_RULE_half_down : K.lookup ra_BY_RULE_half_down = some ⟨.type "tuple", rd_BY_RULE_half_down, .seq #[.ref ra_BY_RULE_half_down_0, .ref ra_BY_RULE_half_down_1] rn_BY_RULE_half_down, rs_BY_RULE_half_down⟩)
    (x_BY_RULE_half_down_0 : K.lookup ra_BY_RULE_half_down_0 = some ⟨.type "tuple", rd_BY_RULE_half_down_0, .seq #[.ref ra_BY_RULE_half_down_0_0, .str "down" tk_BY_RULE_half_down_0_1] rn_BY_RULE_half_down_0, rs_BY_RULE_half_down_0⟩)
    (x_BY_RULE_half_down_0_0 : K.lookup ra_BY_RULE_half_down_0_0 = some ⟨.type "tuple", rd_BY_RULE_half_down_0_0, .seq #[.int 1 tk_BY_RULE_half_down_0_0_0, .int 2 tk_BY_RULE_half_down_0_0_1] rn_BY_RULE_half_down_0_0, rs_BY_RULE_half_down_0_0⟩)
    (x_BY_RULE_half_down_1 : K.lookup ra_BY_RULE_half_down_1 = some ⟨.type "tuple", rd_BY_RULE_half_down_1, .seq #[.ref ra_BY_RULE_half_down_1_0, .str "down" tk_BY_RULE_half_down_1_1] rn_BY_RULE_half_down_1, rs_BY_RULE_half_down_1⟩)
    (x_BY_RULE_half_down_1_0 : K.lookup ra_BY_RULE_half_down_1_0 = some ⟨.type "tuple", rd_BY_RULE_half_down_1_0, .seq #[.int 1 tk_BY_RULE_half_down_1_0_0, .int 2 tk_BY_RULE_half_down_1_0_1] rn_BY_RULE_half_down_1_0, rs_BY_RULE_half_down_1_0⟩)
    (n_BY_RULE_half_even : PySem.W.nsIn K ra_BY_RULE "half_even" = some (some (.ref ra_BY_RULE_half_even)))
    (x_BY_RULE_half_even : K.lookup ra_BY_RULE_half_even = some ⟨.type "tuple", rd_BY_RULE_half_even, .seq #[.ref ra_BY_RULE_half_even_0, .ref ra_BY_RULE_half_even_1] rn_BY_RULE_half_even, rs_BY_RULE_half_even⟩)
    (x_BY_RULE_half_even_0 : K.lookup ra_BY_RULE_half_even_0 = some ⟨.type "tuple", rd_BY_RULE_half_even_0, .seq #[.ref ra_BY_RULE_half_even_0_0, .str "down" tk_BY_RULE_half_even_0_1] rn_BY_RULE_half_even_0, rs_BY_RULE_half_even_0⟩)
    (x_BY_RULE_half_even_0_0 : K.lookup ra_BY_RULE_half_even_0_0 = some ⟨.type "tuple", rd_BY_RULE_half_even_0_0, .seq #[.int 1 tk_BY_RULE_half_even_0_0_0, .int 2 tk_BY_RULE_half_even_0_0_1] rn_BY_RULE_half_even_0_0, rs_BY_RULE_half_even_0_0⟩)
    (x_BY_RULE_half_even_1 : K.lookup ra_BY_RULE_half_even_1 = some ⟨.type "tuple", rd_BY_RULE_half_even_1, .seq #[.ref ra_BY_RULE_half_even_1_0, .str "up" tk_BY_RULE_half_even_1_1] rn_BY_RULE_half_even_1, rs_BY_RULE_half_even_1⟩)
    (x_BY_RULE_half_even_1_0 : K.lookup ra_BY_RULE_half_even_1_0 = some ⟨.type "tuple", rd_BY_RULE_half_even_1_0, .seq #[.int 1 tk_BY_RULE_half_even_1_0_0, .int 2 tk_BY_RULE_half_even_1_0_1] rn_BY_RULE_half_even_1_0, rs_BY_RULE_half_even_1_0⟩)
    (n_BY_RULE_half_up : PySem.W.nsIn K ra_BY_RULE "half_up" = some (some (.ref ra_BY_RULE_half_up)))
    (x_BY_RULE_half_up : K.lookup ra_BY_RULE_half_up = some ⟨.type "tuple", rd_BY_RULE_half_up, .seq #[.ref ra_BY_RULE_half_up_0, .ref ra_BY_RULE_half_up_1] rn_BY_RULE_half_up, rs_BY_RULE_half_up⟩)
    (x_BY_RULE_half_up_0 : K.lookup ra_BY_RULE_half_up_0 = some ⟨.type "tuple", rd_BY_RULE_half_up_0, .seq #[.ref ra_BY_RULE_half_up_0_0, .str "up" tk_BY_RULE_half_up_0_1] rn_BY_RULE_half_up_0, rs_BY_RULE_half_up_0⟩)
    (x_BY_RULE_half_up_0_0 : K.lookup ra_BY_RULE_half_up_0_0 = some ⟨.type "tuple", rd_BY_RULE_half_up_0_0, .seq #[.int 1 tk_BY_RULE_half_up_0_0_0, .int 2 tk_BY_RULE_half_up_0_0_1] rn_BY_RULE_half_up_0_0, rs_BY_RULE_half_up_0_0⟩)
    (x_BY_RULE_half_up_1 : K.lookup ra_BY_RULE_half_up_1 = some ⟨.type "tuple", rd_BY_RULE_half_up_1, .seq #[.ref ra_BY_RULE_half_up_1_0, .str "up" tk_BY_RULE_half_up_1_1] rn_BY_RULE_half_up_1, rs_BY_RULE_half_up_1⟩)
    (x_BY_RULE_half_up_1_0 : K.lookup ra_BY_RULE_half_up_1_0 = some ⟨.type "tuple", rd_BY_RULE_half_up_1_0, .seq #[.int 1 tk_BY_RULE_half_up_1_0_0, .int 2 tk_BY_RULE_half_up_1_0_1] rn_BY_RULE_half_up_1_0, rs_BY_RULE_half_up_1_0⟩)
    (n_BY_RULE_odd : PySem.W.nsIn K ra_BY_RULE "odd" = some (some (.ref ra_BY_RULE_odd)))
    (x_BY_RULE_odd : K.lookup ra_BY_RULE_odd = some ⟨.type "tuple", rd_BY_RULE_odd, .seq #[.ref ra_BY_RULE_odd_0, .ref ra_BY_RULE_odd_1] rn_BY_RULE_odd, rs_BY_RULE_odd⟩)
    (x_BY_RULE_odd_0 : K.lookup ra_BY_RULE_odd_0 = some ⟨.type "tuple", rd_BY_RULE_odd_0, .seq #[.ref ra_BY_RULE_odd_0_0, .str "down" tk_BY_RULE_odd_0_1] rn_BY_RULE_odd_0, rs_BY_RULE_odd_0⟩)
    (x_BY_RULE_odd_0_0 : K.lookup ra_BY_RULE_odd_0_0 = some ⟨.type "tuple", rd_BY_RULE_odd_0_0, .seq #[.int 0 tk_BY_RULE_odd_0_0_0, .int 1 tk_BY_RULE_odd_0_0_1] rn_BY_RULE_odd_0_0, rs_BY_RULE_odd_0_0⟩)
    (x_BY_RULE_odd_1 : K.lookup ra_BY_RULE_odd_1 = some ⟨.type "tuple", rd_BY_RULE_odd_1, .seq #[.ref ra_BY_RULE_odd_1_0, .str "up" tk_BY_RULE_odd_1_1] rn_BY_RULE_odd_1, rs_BY_RULE_odd_1⟩)
    (x_BY_RULE_odd_1_0 : K.lookup ra_BY_RULE_odd_1_0 = some ⟨.type "tuple", rd_BY_RULE_odd_1_0, .seq #[.int 1 tk_BY_RULE_odd_1_0_0, .int 1 tk_BY_RULE_odd_1_0_1] rn_BY_RULE_odd_1_0, rs_BY_RULE_odd_1_0⟩)
    (n_BY_RULE_up : PySem.W.nsIn K ra_BY_RULE "up" = some (some (.ref ra_BY_RULE_up)))
    (x_BY_RULE_up : K.lookup ra_BY_RULE_up = some ⟨.type "tuple", rd_BY_RULE_up, .seq #[.ref ra_BY_RULE_up_0, .ref ra_BY_RULE_up_1] rn_BY_RULE_up, rs_BY_RULE_up⟩)
    (x_BY_RULE_up_0 : K.lookup ra_BY_RULE_up_0 = some ⟨.type "tuple", rd_BY_RULE_up_0, .seq #[.ref ra_BY_RULE_up_0_0, .str "down" tk_BY_RULE_up_0_1] rn_BY_RULE_up_0, rs_BY_RULE_up_0⟩)
    (x_BY_RULE_up_0_0 : K.lookup ra_BY_RULE_up_0_0 = some ⟨.type "tuple", rd_BY_RULE_up_0_0, .seq #[.int 0 tk_BY_RULE_up_0_0_0, .int 1 tk_BY_RULE_up_0_0_1] rn_BY_RULE_up_0_0, rs_BY_RULE_up_0_0⟩)
    (x_BY_RULE_up_1 : K.lookup ra_BY_RULE_up_1 = some ⟨.type "tuple", rd_BY_RULE_up_1, .seq #[.ref ra_BY_RULE_up_1_0, .str "down" tk_BY_RULE_up_1_1] rn_BY_RULE_up_1, rs_BY_RULE_up_1⟩)
    (x_BY_RULE_up_1_0 : K.lookup ra_BY_RULE_up_1_0 = some ⟨.type "tuple", rd_BY_RULE_up_1_0, .seq #[.int 0 tk_BY_RULE_up_1_0_0, .int 1 tk_BY_RULE_up_1_0_1] rn_BY_RULE_up_1_0, rs_BY_RULE_up_1_0⟩)
    (y_DOWN : PySem.W.nsIn K mainGlobals "DOWN" = some (some (.str "down" tk_DOWN)))
    (y_MOST_STEPS : PySem.W.nsIn K mainGlobals "MOST_STEPS" = some (some (.int 12 tk_MOST_STEPS)))
    (y_MOST_WIDTH : PySem.W.nsIn K mainGlobals "MOST_WIDTH" = some (some (.int 100 tk_MOST_WIDTH)))
    (y_PAIR : PySem.W.nsIn K mainGlobals "PAIR" = some (some (.int 2 tk_PAIR)))
    (y_RULES : PySem.W.nsIn K mainGlobals "RULES" = some (some (.ref ra_RULES)))
    (x_RULES : K.lookup ra_RULES = some ⟨.type "tuple", rd_RULES, .seq #[.str "down" tk_RULES_0, .str "half_down" tk_RULES_1, .str "half_even" tk_RULES_2, .str "half_up" tk_RULES_3, .str "odd" tk_RULES_4, .str "up" tk_RULES_5] rn_RULES, rs_RULES⟩)
    (y_UP : PySem.W.nsIn K mainGlobals "UP" = some (some (.str "up" tk_UP)))
    (y_RE : PySem.W.nsIn K mainGlobals "RoundingError" = some (some (.ref C_RoundingError))) (eg_RE : PySem.W.specialIn K (.ref C_RoundingError) "__getattribute__" = some (some (.builtin "type.__getattribute__"))) (er_RE : PySem.W.readsIn K C_RoundingError (.type "type") = true) (ei_RE : PySem.W.findCls K (.ref C_RoundingError) (.type "type") "__init__" = some (.val (.builtin "ValueError.__init__")))
    (y_DifferentWidths : PySem.W.nsIn K mainGlobals "DifferentWidths" = some (some (.ref C_DifferentWidths))) (ex_DifferentWidths : PySem.W.subIn K (.ref C_DifferentWidths) (.type "BaseException") = some true) (et_DifferentWidths : PySem.W.typeIn K (.ref C_DifferentWidths) = some (.type "type")) (ek_DifferentWidths : PySem.W.keepIn K (.ref C_DifferentWidths) = true) (eu_DifferentWidths : PySem.W.hasDictIn K C_DifferentWidths = true)
    (ec_DifferentWidths : K.lookup C_DifferentWidths = some (excClassObj nm_DifferentWidths q_DifferentWidths C_DifferentWidths N_DifferentWidths bs_DifferentWidths bm_DifferentWidths true sn_DifferentWidths sub_DifferentWidths ab_DifferentWidths col_DifferentWidths dd_DifferentWidths k0_DifferentWidths k1_DifferentWidths k2_DifferentWidths k3_DifferentWidths k5_DifferentWidths "ValueError.__new__")) (em_DifferentWidths : PySem.HandSPX.refsVE bm_DifferentWidths = true) (es_DifferentWidths : PySem.W.findIn K (.ref C_DifferentWidths) "__setattr__" = some (some (.builtin "object.__setattr__")))
    (sb_DifferentWidths_DifferentWidths : PySem.W.subIn K (.ref C_DifferentWidths) (.ref C_DifferentWidths) = some true)
    (sb_DifferentWidths_InvalidChain : PySem.W.subIn K (.ref C_DifferentWidths) (.ref C_InvalidChain) = some false)
    (y_InvalidChain : PySem.W.nsIn K mainGlobals "InvalidChain" = some (some (.ref C_InvalidChain))) (ex_InvalidChain : PySem.W.subIn K (.ref C_InvalidChain) (.type "BaseException") = some true) (et_InvalidChain : PySem.W.typeIn K (.ref C_InvalidChain) = some (.type "type")) (ek_InvalidChain : PySem.W.keepIn K (.ref C_InvalidChain) = true) (eu_InvalidChain : PySem.W.hasDictIn K C_InvalidChain = true)
    (ec_InvalidChain : K.lookup C_InvalidChain = some (excClassObj nm_InvalidChain q_InvalidChain C_InvalidChain N_InvalidChain bs_InvalidChain bm_InvalidChain true sn_InvalidChain sub_InvalidChain ab_InvalidChain col_InvalidChain dd_InvalidChain k0_InvalidChain k1_InvalidChain k2_InvalidChain k3_InvalidChain k5_InvalidChain "ValueError.__new__")) (em_InvalidChain : PySem.HandSPX.refsVE bm_InvalidChain = true)
    (es_InvalidChain : PySem.W.findIn K (.ref C_InvalidChain) "__setattr__" = some (some (.builtin "object.__setattr__"))) (ev_InvalidChain : PySem.W.findIn K (.ref C_InvalidChain) "value" = some none) (eb_InvalidChain : PySem.W.findIn K (.ref C_InvalidChain) "__getattribute__" = some (some (.builtin "BaseException.__getattribute__"))) (ed_InvalidChain : PySem.W.findIn K (.ref C_InvalidChain) "__getattr__" = some none)
    (sb_InvalidChain_DifferentWidths : PySem.W.subIn K (.ref C_InvalidChain) (.ref C_DifferentWidths) = some false)
    (sb_InvalidChain_InvalidChain : PySem.W.subIn K (.ref C_InvalidChain) (.ref C_InvalidChain) = some true)
    (u_tab0 : cd34 = .ref cT0) (y_tab0 : h.get? pT0 = some (PySem.W.tabObj #[])) (t_tab0 : PySem.W.tabIn K "law" = some (cT0, pT0)) (d_tab0 : PySem.W.codeHdIn K cT0 pT0 = true) (n_tab0 : K.lookup pT0 = none) :
    ∃ fd : FuncData, (∀ (s : Shared) (v : Value), BindsTo s fd ⟨[v], []⟩ [("_law_script", v)]) ∧ TbH K h ∧ ∀ base : Heap, K.In base → base.Ns mainGlobals mg → TbB K mg base → Fn l.prog w K mg base CX0 12 fa fd ["_law_script"] (lift K 1 fs_law) := by
  have e := hfa.symm.trans (PySem.W.mg_of X G a34)
  cases e
  exact ⟨_, fun s v => .of_eq rfl, tbH_one rfl (tbH1_of X t_tab0 d_tab0 n_tab0 y_tab0), fun base _ _ hB => ok_law (mkTx X G a0 i0 l0 c0 k0 a1 i1 l1 c1 k1 a2 l2 c2 k2 a3 l3 c3 k3 a4 l4 c4 k4 a5 l5 c5 k5 a6 l6 c6 k6 a7 l7 c7 k7 a8 l8 c8 k8 a9 l9 c9 k9 a10 l10 c10 k10 a11 l11 c11 k11 a12 l12 c12 k12 a13 l13 c13 k13 a14 l14 c14 k14 a15 l15 c15 k15 a16 l16 c16 k16 a17 l17 c17 k17 a18 l18 c18 k18 a19 l19 c19 k19 a20 l20 c20 k20 a21 l21 c21 k21 a22 l22 c22 k22 a23 l23 c23 k23 a24 l24 c24 k24 a25 l25 c25 k25 a26 l26 c26 k26 a27 l27 c27 k27 a28 l28 c28 k28 a29 l29 c29 k29 a30 l30 c30 k30 a31 l31 c31 k31 a32 l32 c32 k32 a33 l33 c33 k33 a34 l34 c34 k34 z_abs z_all z_bool z_enumerate z_int z_isinstance z_len z_list z_min z_range z_repr z_sorted z_str z_tuple z_zip y_BY_RULE d_BY_RULE q_BY_RULE n_BY_RULE_down x_BY_RULE_down x_BY_RULE_down_0 x_BY_RULE_down_0_0 x_BY_RULE_down_1 x_BY_RULE_down_1_0 n_BY_RULE_half_down x_BY_RULE_half_down x_BY_RULE_half_down_0 x_BY_RULE_half_down_0_0 x_BY_RULE_half_down_1 x_BY_RULE_half_down_1_0 n_BY_RULE_half_even x_BY_RULE_half_even x_BY_RULE_half_even_0 x_BY_RULE_half_even_0_0 x_BY_RULE_half_even_1 x_BY_RULE_half_even_1_0 n_BY_RULE_half_up x_BY_RULE_half_up x_BY_RULE_half_up_0 x_BY_RULE_half_up_0_0 x_BY_RULE_half_up_1 x_BY_RULE_half_up_1_0 n_BY_RULE_odd x_BY_RULE_odd x_BY_RULE_odd_0 x_BY_RULE_odd_0_0 x_BY_RULE_odd_1 x_BY_RULE_odd_1_0 n_BY_RULE_up x_BY_RULE_up x_BY_RULE_up_0 x_BY_RULE_up_0_0 x_BY_RULE_up_1 x_BY_RULE_up_1_0 y_DOWN y_MOST_STEPS y_MOST_WIDTH y_PAIR y_RULES x_RULES y_UP y_RE eg_RE er_RE ei_RE y_DifferentWidths ex_DifferentWidths et_DifferentWidths ek_DifferentWidths eu_DifferentWidths ec_DifferentWidths em_DifferentWidths es_DifferentWidths sb_DifferentWidths_DifferentWidths sb_DifferentWidths_InvalidChain y_InvalidChain ex_InvalidChain et_InvalidChain ek_InvalidChain eu_InvalidChain ec_InvalidChain em_InvalidChain es_InvalidChain ev_InvalidChain eb_InvalidChain ed_InvalidChain sb_InvalidChain_DifferentWidths sb_InvalidChain_InvalidChain u_tab0 y_tab0 t_tab0 d_tab0 n_tab0) hB⟩
end LAW
open PySem PySem.W PyProof.Rows
set_option maxHeartbeats 0 in
theorem PySem.Challenge.cw_stagedrounding_k19_two_chains_of_any_val_holds : PySem.Challenge.rw_stagedrounding_k19_two_chains_of_any_val.Holds := by
  w_on; o_law; k_head; (case hw => w_witness2)
  k_fill
  refine Z.end_of (l := PySem.Challenge.rw_stagedrounding_k19_two_chains_of_any_val) (n := 63) (k := 12) (x := "_law_script") (fs := LAW.fs_law) rfl (by decide) rfl ⟨rfl, by decide, by decide⟩ (fun w h Y => PySem.W.km_in_of Y) ?Fu LAW.law_true
  case Fu =>
    intro w mg fa h Y KX G hmg
    refine' LAW.all_mk KX G hmg ?a0 ?i0 ?l0 ?c0 ?k0 ?a1 ?i1 ?l1 ?c1 ?k1 ?a2 ?l2 ?c2 ?k2 ?a3 ?l3 ?c3 ?k3 ?a4 ?l4 ?c4 ?k4 ?a5 ?l5 ?c5 ?k5 ?a6 ?l6 ?c6 ?k6 ?a7 ?l7 ?c7 ?k7 ?a8 ?l8 ?c8 ?k8 ?a9 ?l9 ?c9 ?k9 ?a10 ?l10 ?c10 ?k10 ?a11 ?l11 ?c11 ?k11 ?a12 ?l12 ?c12 ?k12 ?a13 ?l13 ?c13 ?k13 ?a14 ?l14 ?c14 ?k14 ?a15 ?l15 ?c15 ?k15 ?a16 ?l16 ?c16 ?k16 ?a17 ?l17 ?c17 ?k17 ?a18 ?l18 ?c18 ?k18 ?a19 ?l19 ?c19 ?k19 ?a20 ?l20 ?c20 ?k20 ?a21 ?l21 ?c21 ?k21 ?a22 ?l22 ?c22 ?k22 ?a23 ?l23 ?c23 ?k23 ?a24 ?l24 ?c24 ?k24 ?a25 ?l25 ?c25 ?k25 ?a26 ?l26 ?c26 ?k26 ?a27 ?l27 ?c27 ?k27 ?a28 ?l28 ?c28 ?k28 ?a29 ?l29 ?c29 ?k29 ?a30 ?l30 ?c30 ?k30 ?a31 ?l31 ?c31 ?k31 ?a32 ?l32 ?c32 ?k32 ?a33 ?l33 ?c33 ?k33 ?a34 ?l34 ?c34 ?k34 ?z_abs ?z_all ?z_bool ?z_enumerate ?z_int ?z_isinstance ?z_len ?z_list ?z_min ?z_range ?z_repr ?z_sorted ?z_str ?z_tuple ?z_zip ?y_BY_RULE ?d_BY_RULE ?q_BY_RULE ?n_BY_RULE_down ?x_BY_RULE_down ?x_BY_RULE_down_0 ?x_BY_RULE_down_0_0 ?x_BY_RULE_down_1 ?x_BY_RULE_down_1_0 ?n_BY_RULE_half_down ?x_BY_RULE_half_down ?x_BY_RULE_half_down_0 ?x_BY_RULE_half_down_0_0 ?x_BY_RULE_half_down_1 ?x_BY_RULE_half_down_1_0 ?n_BY_RULE_half_even ?x_BY_RULE_half_even ?x_BY_RULE_half_even_0 ?x_BY_RULE_half_even_0_0 ?x_BY_RULE_half_even_1 ?x_BY_RULE_half_even_1_0 ?n_BY_RULE_half_up ?x_BY_RULE_half_up ?x_BY_RULE_half_up_0 ?x_BY_RULE_half_up_0_0 ?x_BY_RULE_half_up_1 ?x_BY_RULE_half_up_1_0 ?n_BY_RULE_odd ?x_BY_RULE_odd ?x_BY_RULE_odd_0 ?x_BY_RULE_odd_0_0 ?x_BY_RULE_odd_1 ?x_BY_RULE_odd_1_0 ?n_BY_RULE_up ?x_BY_RULE_up ?x_BY_RULE_up_0 ?x_BY_RULE_up_0_0 ?x_BY_RULE_up_1 ?x_BY_RULE_up_1_0 ?y_DOWN ?y_MOST_STEPS ?y_MOST_WIDTH ?y_PAIR ?y_RULES ?x_RULES ?y_UP ?y_RE ?eg_RE ?er_RE ?ei_RE ?y_DifferentWidths ?ex_DifferentWidths ?et_DifferentWidths ?ek_DifferentWidths ?eu_DifferentWidths ?ec_DifferentWidths ?em_DifferentWidths ?es_DifferentWidths ?sb_DifferentWidths_DifferentWidths ?sb_DifferentWidths_InvalidChain ?y_InvalidChain ?ex_InvalidChain ?et_InvalidChain ?ek_InvalidChain ?eu_InvalidChain ?ec_InvalidChain ?em_InvalidChain ?es_InvalidChain ?ev_InvalidChain ?eb_InvalidChain ?ed_InvalidChain ?sb_InvalidChain_DifferentWidths ?sb_InvalidChain_InvalidChain ?u_tab0 ?y_tab0 ?t_tab0 ?d_tab0 ?n_tab0
    (case y_RE => k_is); (case y_DifferentWidths => k_is); (case y_InvalidChain => k_is); (case a0 => k_is); (case i0 => k_is); (case l0 => k_is); (case c0 => k_is); (case k0 => k_is); (case a1 => k_is); (case i1 => k_is); (case l1 => k_is); (case c1 => k_is); (case k1 => k_is); (case a2 => k_is); (case l2 => k_is); (case c2 => k_is); (case k2 => k_is); (case a3 => k_is); (case l3 => k_is); (case c3 => k_is); (case k3 => k_is); (case a4 => k_is); (case l4 => k_is); (case c4 => k_is); (case k4 => k_is); (case a5 => k_is); (case l5 => k_is); (case c5 => k_is); (case k5 => k_is); (case a6 => k_is); (case l6 => k_is); (case c6 => k_is); (case k6 => k_is); (case a7 => k_is); (case l7 => k_is); (case c7 => k_is); (case k7 => k_is); (case a8 => k_is); (case l8 => k_is); (case c8 => k_is); (case k8 => k_is); (case a9 => k_is); (case l9 => k_is); (case c9 => k_is); (case k9 => k_is); (case a10 => k_is); (case l10 => k_is); (case c10 => k_is); (case k10 => k_is); (case a11 => k_is); (case l11 => k_is); (case c11 => k_is); (case k11 => k_is); (case a12 => k_is); (case l12 => k_is); (case c12 => k_is); (case k12 => k_is); (case a13 => k_is); (case l13 => k_is); (case c13 => k_is); (case k13 => k_is); (case a14 => k_is); (case l14 => k_is); (case c14 => k_is); (case k14 => k_is); (case a15 => k_is); (case l15 => k_is); (case c15 => k_is); (case k15 => k_is); (case a16 => k_is); (case l16 => k_is); (case c16 => k_is); (case k16 => k_is); (case a17 => k_is); (case l17 => k_is); (case c17 => k_is); (case k17 => k_is); (case a18 => k_is); (case l18 => k_is); (case c18 => k_is); (case k18 => k_is); (case a19 => k_is); (case l19 => k_is); (case c19 => k_is); (case k19 => k_is); (case a20 => k_is); (case l20 => k_is); (case c20 => k_is); (case k20 => k_is); (case a21 => k_is); (case l21 => k_is); (case c21 => k_is); (case k21 => k_is); (case a22 => k_is); (case l22 => k_is); (case c22 => k_is); (case k22 => k_is); (case a23 => k_is); (case l23 => k_is); (case c23 => k_is); (case k23 => k_is); (case a24 => k_is); (case l24 => k_is); (case c24 => k_is); (case k24 => k_is); (case a25 => k_is); (case l25 => k_is); (case c25 => k_is); (case k25 => k_is); (case a26 => k_is); (case l26 => k_is); (case c26 => k_is); (case k26 => k_is); (case a27 => k_is); (case l27 => k_is); (case c27 => k_is); (case k27 => k_is); (case a28 => k_is); (case l28 => k_is); (case c28 => k_is); (case k28 => k_is); (case a29 => k_is); (case l29 => k_is); (case c29 => k_is); (case k29 => k_is); (case a30 => k_is); (case l30 => k_is); (case c30 => k_is); (case k30 => k_is); (case a31 => k_is); (case l31 => k_is); (case c31 => k_is); (case k31 => k_is); (case a32 => k_is); (case l32 => k_is); (case c32 => k_is); (case k32 => k_is); (case a33 => k_is); (case l33 => k_is); (case c33 => k_is); (case k33 => k_is); (case a34 => k_is); (case l34 => k_is); (case c34 => k_is); (case k34 => k_is); (case z_abs => k_is); (case z_all => k_is); (case z_bool => k_is); (case z_enumerate => k_is); (case z_int => k_is); (case z_isinstance => k_is); (case z_len => k_is); (case z_list => k_is); (case z_min => k_is); (case z_range => k_is); (case z_repr => k_is); (case z_sorted => k_is); (case z_str => k_is); (case z_tuple => k_is); (case z_zip => k_is); (case y_BY_RULE => k_is); (case d_BY_RULE => k_is); (case q_BY_RULE => k_keys); (case n_BY_RULE_down => k_is); (case x_BY_RULE_down => k_is); (case x_BY_RULE_down_0 => k_is); (case x_BY_RULE_down_0_0 => k_is); (case x_BY_RULE_down_1 => k_is); (case x_BY_RULE_down_1_0 => k_is); (case n_BY_RULE_half_down => k_is); (case x_BY_RULE_half_down => k_is); (case x_BY_RULE_half_down_0 => k_is); (case x_BY_RULE_half_down_0_0 => k_is); (case x_BY_RULE_half_down_1 => k_is); (case x_BY_RULE_half_down_1_0 => k_is); (case n_BY_RULE_half_even => k_is); (case x_BY_RULE_half_even => k_is); (case x_BY_RULE_half_even_0 => k_is); (case x_BY_RULE_half_even_0_0 => k_is); (case x_BY_RULE_half_even_1 => k_is); (case x_BY_RULE_half_even_1_0 => k_is); (case n_BY_RULE_half_up => k_is); (case x_BY_RULE_half_up => k_is); (case x_BY_RULE_half_up_0 => k_is); (case x_BY_RULE_half_up_0_0 => k_is); (case x_BY_RULE_half_up_1 => k_is); (case x_BY_RULE_half_up_1_0 => k_is); (case n_BY_RULE_odd => k_is); (case x_BY_RULE_odd => k_is); (case x_BY_RULE_odd_0 => k_is); (case x_BY_RULE_odd_0_0 => k_is); (case x_BY_RULE_odd_1 => k_is); (case x_BY_RULE_odd_1_0 => k_is); (case n_BY_RULE_up => k_is); (case x_BY_RULE_up => k_is); (case x_BY_RULE_up_0 => k_is); (case x_BY_RULE_up_0_0 => k_is); (case x_BY_RULE_up_1 => k_is); (case x_BY_RULE_up_1_0 => k_is); (case y_DOWN => k_is); (case y_MOST_STEPS => k_is); (case y_MOST_WIDTH => k_is); (case y_PAIR => k_is); (case y_RULES => k_is); (case x_RULES => k_is); (case y_UP => k_is); (case eg_RE => k_is); (case er_RE => k_is); (case ei_RE => k_is); (case ex_DifferentWidths => k_is); (case et_DifferentWidths => k_is); (case ek_DifferentWidths => k_is); (case eu_DifferentWidths => k_is); (case ec_DifferentWidths => k_is); (case es_DifferentWidths => k_is); (case sb_DifferentWidths_DifferentWidths => k_is); (case sb_DifferentWidths_InvalidChain => k_is); (case ex_InvalidChain => k_is); (case et_InvalidChain => k_is); (case ek_InvalidChain => k_is); (case eu_InvalidChain => k_is); (case ec_InvalidChain => k_is); (case es_InvalidChain => k_is); (case ev_InvalidChain => k_is); (case eb_InvalidChain => k_is); (case ed_InvalidChain => k_is); (case sb_InvalidChain_DifferentWidths => k_is); (case sb_InvalidChain_InvalidChain => k_is); (case em_DifferentWidths => rfl); (case em_InvalidChain => rfl); (case u_tab0 => rfl); (case y_tab0 => exact PySem.W.km_tabs_of Y _ (List.Mem.head _)); (case t_tab0 => kernel_rfl); (case d_tab0 => kernel_rfl); (case n_tab0 => kernel_rfl)
